import PyProof.Rows.All
import Wide.All
import OpenK.AllK
import Wide.FinOn
import HandS.ForMost
import HandS.Codes
import HandS.Evl
import HandS.Walk
import HandS.Style
import HandS.Conv
import HandS.IsInst
import HandS.Defaults
import HandS.HeadNt
import PyProof.ListStr
import PyProof.EnumMake
import PyProof.Draws
import KE.KStateDown
import Lean
import HandS.More
import HandS.WordsExc
import HandS.Head0
import HandS.Head1
import HandS.Head2
import HandS.HeadEnd
import HandS.HeadHook1
import HandS.HeadHook2
import PySem.Challenge.RW_joinranks_k97_whole_rows_made_by_neighbo
set_option Elab.async false
set_option linter.all false
set_option maxRecDepth 100000
set_option maxHeartbeats 0
namespace JR
/-- a text, by its code points; a row of pieces -/
abbrev Wd := List Nat
abbrev Rw := List Wd

def pass (L R : Wd) : Rw → Rw
  | [] => []
  | [x] => [x]
  | x :: y :: r => if x = L ∧ y = R then (L ++ R) :: pass L R r else x :: pass L R (y :: r)
def cutF : List (Wd × Wd) → Rw → Rw
  | [], x => x
  | p :: rs, x => cutF rs (pass p.1 p.2 x)
def sg (u : Wd) : Rw := u.map fun c => [c]
def Cut (rs : List (Wd × Wd)) (u : Wd) : Rw := cutF rs (sg u)
def PosR (rs : List (Wd × Wd)) : Prop := ∀ p ∈ rs, p.1 ≠ [] ∧ p.2 ≠ []
def NE (x : Rw) : Prop := ∀ p ∈ x, p ≠ []
def Spl (x : Rw) (n : Nat) : Prop := ∃ a b, x = a ++ b ∧ a.flatten.length = n
def NC : List (Wd × Wd) → Rw → Rw → Prop
  | [], _, _ => True
  | p :: rs, x, y => ¬((pass p.1 p.2 x).getLast? = some p.1 ∧ y.head? = some p.2) ∧ NC rs (pass p.1 p.2 x) (pass p.1 p.2 y)

section
variable {L R : Wd}
theorem pass_two {x y : Wd} {r : Rw} (h : x = L ∧ y = R) : pass L R (x :: y :: r) = (L ++ R) :: pass L R r := by
  rw [pass, if_pos h]
theorem pass_one {x y : Wd} {r : Rw} (h : ¬(x = L ∧ y = R)) : pass L R (x :: y :: r) = x :: pass L R (y :: r) := by
  rw [pass, if_neg h]
theorem pass_ind {P : Rw → Prop} (h0 : P []) (h1 : ∀ x, P [x]) (h2 : ∀ x y r, x = L ∧ y = R → P r → P (x :: y :: r)) (h3 : ∀ x y r, ¬(x = L ∧ y = R) → P (y :: r) → P (x :: y :: r)) : ∀ x, P x
  | [] => h0
  | [x] => h1 x
  | x :: y :: r => by
    by_cases h : x = L ∧ y = R
    · exact h2 x y r h (pass_ind h0 h1 h2 h3 r)
    · exact h3 x y r h (pass_ind h0 h1 h2 h3 (y :: r))
theorem flat_pass (x : Rw) : (pass L R x).flatten = x.flatten := by
  induction x using pass_ind (L := L) (R := R) with
  | h0 => rfl
  | h1 x => rfl
  | h2 x y r h ih => rw [pass_two h, List.flatten_cons, ih, h.1, h.2]; simp
  | h3 x y r h ih => rw [pass_one h, List.flatten_cons, ih]; rfl
theorem pass_cons_ne (a : Wd) (x : Rw) : pass L R (a :: x) ≠ [] := by
  cases x with
  | nil => simp [pass]
  | cons b r =>
    by_cases h : a = L ∧ b = R
    · rw [pass_two h]; simp
    · rw [pass_one h]; simp
theorem pass_ne {x : Rw} (h : x ≠ []) : pass L R x ≠ [] := by
  cases x with
  | nil => exact absurd rfl h
  | cons a r => exact pass_cons_ne a r
theorem mem_pass {p : Wd} (x : Rw) : p ∈ pass L R x → p ∈ x ∨ p = L ++ R := by
  induction x using pass_ind (L := L) (R := R) with
  | h0 => intro h; simp [pass] at h
  | h1 x => intro h; exact .inl h
  | h2 x y r h ih =>
    rw [pass_two h]; intro q
    rcases List.mem_cons.mp q with q | q
    · exact .inr q
    · rcases ih q with q | q
      · exact .inl (List.mem_cons_of_mem _ (List.mem_cons_of_mem _ q))
      · exact .inr q
  | h3 x y r h ih =>
    rw [pass_one h]; intro q
    rcases List.mem_cons.mp q with q | q
    · exact .inl (by rw [q]; exact List.mem_cons_self)
    · rcases ih q with q | q
      · exact .inl (List.mem_cons_of_mem _ q)
      · exact .inr q
theorem getLast?_cons_of {a : Wd} {x : Rw} (h : x ≠ []) : (a :: x).getLast? = x.getLast? := by
  cases x with
  | nil => exact absurd rfl h
  | cons b r => simp [List.getLast?_cons_cons]
theorem pass_append {y : Rw} (x : Rw) : ¬((pass L R x).getLast? = some L ∧ y.head? = some R) → pass L R (x ++ y) = pass L R x ++ pass L R y := by
  induction x using pass_ind (L := L) (R := R) with
  | h0 => intro _; rfl
  | h1 a =>
    intro h
    cases y with
    | nil => rfl
    | cons b r =>
      have h' : ¬(a = L ∧ b = R) := fun q => h ⟨by simp [pass, q.1], by simp [q.2]⟩
      show pass L R (a :: b :: r) = _
      rw [pass_one h']; rfl
  | h2 a b r h ih =>
    intro q
    show pass L R (a :: b :: (r ++ y)) = _
    rw [pass_two h, pass_two h, List.cons_append]
    cases r with
    | nil => rfl
    | cons c r' =>
      rw [ih fun z => q ⟨?_, z.2⟩]
      rw [pass_two h, getLast?_cons_of (pass_cons_ne _ _)]; exact z.1
  | h3 a b r h ih =>
    intro q
    show pass L R (a :: b :: (r ++ y)) = _
    rw [pass_one h, pass_one h, List.cons_append]
    rw [pass_one h, getLast?_cons_of (pass_cons_ne _ _)] at q
    have := ih q
    rw [List.cons_append] at this
    rw [this]
theorem pass_cross {y : Rw} (hR : R ≠ []) (x : Rw) : (pass L R x).getLast? = some L → pass L R (x ++ R :: y) = (pass L R x).dropLast ++ (L ++ R) :: pass L R y := by
  induction x using pass_ind (L := L) (R := R) with
  | h0 => intro h; simp [pass] at h
  | h1 a =>
    intro h
    have h' : a = L := by simpa [pass] using h
    show pass L R (a :: R :: y) = _
    rw [pass_two ⟨h', rfl⟩]; rfl
  | h2 a b r h ih =>
    intro q
    show pass L R (a :: b :: (r ++ R :: y)) = _
    rw [pass_two h] at q ⊢
    rw [pass_two h]
    cases r with
    | nil =>
      exfalso
      have e : L ++ R = L := by simpa [pass] using q
      exact hR (by simpa using e)
    | cons c r' =>
      rw [getLast?_cons_of (pass_cons_ne _ _)] at q
      rw [ih q, List.dropLast_cons_of_ne_nil (pass_cons_ne _ _)]; rfl
  | h3 a b r h ih =>
    intro q
    show pass L R (a :: b :: (r ++ R :: y)) = _
    rw [pass_one h] at q ⊢
    rw [pass_one h]
    rw [getLast?_cons_of (pass_cons_ne _ _)] at q
    have := ih q
    rw [List.cons_append] at this
    rw [this, List.dropLast_cons_of_ne_nil (pass_cons_ne _ _)]; rfl
theorem len_pass (x : Rw) : (pass L R x).length ≤ x.length := by
  induction x using pass_ind (L := L) (R := R) with
  | h0 => exact Nat.le_refl _
  | h1 x => exact Nat.le_refl _
  | h2 x y r h ih => rw [pass_two h]; simp only [List.length_cons]; omega
  | h3 x y r h ih => rw [pass_one h]; simp only [List.length_cons] at *; omega
theorem spl_pass (x : Rw) : ∀ n, Spl (pass L R x) n → Spl x n := by
  induction x using pass_ind (L := L) (R := R) with
  | h0 => intro n h; exact h
  | h1 x => intro n h; exact h
  | h2 x y r h ih =>
    rintro n ⟨a, b, e, hn⟩
    rw [pass_two h] at e
    cases a with
    | nil => exact ⟨[], _, rfl, hn⟩
    | cons c a' =>
      obtain ⟨e1, e2⟩ : L ++ R = c ∧ pass L R r = a' ++ b := by simpa using e
      obtain ⟨a2, b2, e3, hn2⟩ := ih _ ⟨a', b, e2, rfl⟩
      refine ⟨x :: y :: a2, b2, by rw [e3]; rfl, ?_⟩
      rw [← hn, ← e1, h.1, h.2]
      simp only [List.flatten_cons, List.length_append]
      omega
  | h3 x y r h ih =>
    rintro n ⟨a, b, e, hn⟩
    rw [pass_one h] at e
    cases a with
    | nil => exact ⟨[], _, rfl, hn⟩
    | cons c a' =>
      obtain ⟨e1, e2⟩ : x = c ∧ pass L R (y :: r) = a' ++ b := by simpa using e
      obtain ⟨a2, b2, e3, hn2⟩ := ih _ ⟨a', b, e2, rfl⟩
      refine ⟨x :: a2, b2, by rw [e3]; rfl, ?_⟩
      rw [← hn, ← e1]
      simp only [List.flatten_cons, List.length_append]
      omega
theorem ne_pass (hR : R ≠ []) (x : Rw) (h : NE x) : NE (pass L R x) := fun p hp => by
  rcases mem_pass x hp with q | q
  · exact h p q
  · rw [q]; simp [hR]
end

theorem not_spl {a b : Rw} {p : Wd} {n : Nat} (h1 : a.flatten.length < n) (h2 : n < a.flatten.length + p.length) : ¬ Spl (a ++ p :: b) n := by
  rintro ⟨c, d, e, hn⟩
  rcases List.append_eq_append_iff.mp e with ⟨f, e1, e2⟩ | ⟨f, e1, e2⟩
  · cases f with
    | nil => rw [e1] at hn; simp at hn; simp at h1; omega
    | cons g f' =>
      obtain ⟨e3, e4⟩ : p = g ∧ b = f' ++ d := by simpa using e2
      rw [e1, ← e3] at hn
      simp only [List.flatten_append, List.flatten_cons, List.length_append] at hn
      omega
  · rw [e1] at h1
    simp only [List.flatten_append, List.length_append] at h1
    omega

theorem flat_cutF : ∀ (rs : List (Wd × Wd)) (x : Rw), (cutF rs x).flatten = x.flatten
  | [], _ => rfl
  | _ :: rs, x => (flat_cutF rs _).trans (flat_pass x)
theorem flat_sg (u : Wd) : (sg u).flatten = u := by
  induction u with
  | nil => rfl
  | cons c r ih => show [c] ++ (sg r).flatten = _; rw [ih]; rfl
theorem flat_Cut (rs : List (Wd × Wd)) (u : Wd) : (Cut rs u).flatten = u := (flat_cutF rs _).trans (flat_sg u)
theorem sg_append (u v : Wd) : sg (u ++ v) = sg u ++ sg v := by simp [sg]
theorem sg_ne {u : Wd} (h : u ≠ []) : sg u ≠ [] := by
  cases u with
  | nil => exact absurd rfl h
  | cons c r => simp [sg]
theorem ne_sg (u : Wd) : NE (sg u) := fun p hp => by
  obtain ⟨c, _, rfl⟩ := List.mem_map.mp hp
  simp
theorem ne_cutF : ∀ (rs : List (Wd × Wd)) (x : Rw), PosR rs → NE x → NE (cutF rs x)
  | [], _, _, h => h
  | p :: rs, x, hp, h => ne_cutF rs _ (fun q hq => hp q (List.mem_cons_of_mem _ hq)) (ne_pass (hp p List.mem_cons_self).2 x h)
theorem ne_Cut {rs : List (Wd × Wd)} (hp : PosR rs) (u : Wd) : NE (Cut rs u) := ne_cutF rs _ hp (ne_sg u)
theorem spl_cutF : ∀ (rs : List (Wd × Wd)) (x : Rw) (n : Nat), Spl (cutF rs x) n → Spl x n
  | [], _, _, h => h
  | _ :: rs, x, n, h => spl_pass x n (spl_cutF rs _ n h)
theorem cutF_append : ∀ (rs ss : List (Wd × Wd)) (x : Rw), cutF (rs ++ ss) x = cutF ss (cutF rs x)
  | [], _, _ => rfl
  | _ :: rs, ss, x => cutF_append rs ss _
theorem cutF_one (p : Wd) : ∀ rs : List (Wd × Wd), cutF rs [p] = [p]
  | [] => rfl
  | _ :: rs => cutF_one p rs
theorem cutF_ne : ∀ (rs : List (Wd × Wd)) {x : Rw}, x ≠ [] → cutF rs x ≠ []
  | [], _, h => h
  | _ :: rs, _, h => cutF_ne rs (pass_ne h)
theorem mem_cutF {p : Wd} : ∀ (rs : List (Wd × Wd)) (x : Rw), p ∈ cutF rs x → p ∈ x ∨ ∃ q ∈ rs, p = q.1 ++ q.2
  | [], _, h => .inl h
  | q :: rs, x, h => by
    rcases mem_cutF rs _ h with h | ⟨q', hq, e⟩
    · rcases mem_pass x h with h | h
      · exact .inl h
      · exact .inr ⟨q, List.mem_cons_self, h⟩
    · exact .inr ⟨q', List.mem_cons_of_mem _ hq, e⟩

theorem len_cutF : ∀ (rs : List (Wd × Wd)) (x : Rw), (cutF rs x).length ≤ x.length
  | [], _ => Nat.le_refl _
  | p :: rs, x => Nat.le_trans (len_cutF rs _) (len_pass x)
theorem cutF_succ {rs : List (Wd × Wd)} {i : Nat} {p : Wd × Wd} (h : rs[i]? = some p) (x : Rw) : cutF (rs.take (i + 1)) x = pass p.1 p.2 (cutF (rs.take i) x) := by
  rw [List.take_add_one, h, cutF_append]; rfl
theorem nc_append : ∀ (rs : List (Wd × Wd)) {x y : Rw}, NC rs x y → cutF rs (x ++ y) = cutF rs x ++ cutF rs y
  | [], _, _, _ => rfl
  | p :: rs, x, y, h => by
    show cutF rs (pass p.1 p.2 (x ++ y)) = _
    rw [pass_append x h.1, nc_append rs h.2]; rfl
theorem nc_of_spl : ∀ (rs : List (Wd × Wd)) {x y : Rw}, PosR rs → Spl (cutF rs (x ++ y)) x.flatten.length → NC rs x y
  | [], _, _, _, _ => trivial
  | p :: rs, x, y, hp, h => by
    have hp0 := hp p List.mem_cons_self
    have hp1 : PosR rs := fun q hq => hp q (List.mem_cons_of_mem _ hq)
    have h' : Spl (cutF rs (pass p.1 p.2 (x ++ y))) x.flatten.length := h
    by_cases c : (pass p.1 p.2 x).getLast? = some p.1 ∧ y.head? = some p.2
    · exfalso
      obtain ⟨c1, c2⟩ := c
      cases y with
      | nil => simp at c2
      | cons b r =>
        have e : b = p.2 := by simpa using c2
        subst e
        have s := spl_cutF rs _ _ h'
        rw [pass_cross hp0.2 x c1] at s
        have l1 : x.flatten.length = (pass p.1 p.2 x).dropLast.flatten.length + p.1.length := by
          rw [← flat_pass (L := p.1) (R := p.2) x]
          have hne : pass p.1 p.2 x ≠ [] := fun z => by rw [z] at c1; simp at c1
          have e2 := List.dropLast_concat_getLast hne
          have e3 : (pass p.1 p.2 x).getLast hne = p.1 := by
            rw [List.getLast?_eq_some_getLast hne] at c1; exact Option.some.inj c1
          rw [e3] at e2
          conv => lhs; rw [← e2]
          simp
        have l2 : 0 < p.1.length := List.length_pos_iff.mpr hp0.1
        have l3 : 0 < p.2.length := List.length_pos_iff.mpr hp0.2
        exact not_spl (by omega) (by rw [List.length_append]; omega) s
    · refine ⟨c, nc_of_spl rs hp1 ?_⟩
      rw [pass_append x c] at h'
      rw [flat_pass]
      exact h'
theorem nc_right : ∀ (rs : List (Wd × Wd)) {x y z : Rw}, y ≠ [] → NC rs x y → NC rs y z → NC rs x (y ++ z)
  | [], _, _, _, _, _, _ => trivial
  | p :: rs, x, y, z, hy, h1, h2 => by
    refine ⟨fun c => h1.1 ⟨c.1, ?_⟩, ?_⟩
    · have := c.2
      cases y with
      | nil => exact absurd rfl hy
      | cons b r => simpa using this
    · rw [pass_append y h2.1]
      exact nc_right rs (pass_ne hy) h1.2 h2.2
theorem nc_iff : ∀ (rs : List (Wd × Wd)) {x y : Rw}, NC rs x y ↔ ∀ t p, rs[t]? = some p → ¬((cutF (rs.take (t + 1)) x).getLast? = some p.1 ∧ (cutF (rs.take t) y).head? = some p.2)
  | [], _, _ => ⟨fun _ t p h => by simp at h, fun _ => trivial⟩
  | q :: rs, x, y => by
    constructor
    · rintro ⟨h1, h2⟩ t p ht
      cases t with
      | zero =>
        have e : q = p := by simpa using ht
        subst e; exact h1
      | succ t =>
        have := (nc_iff rs).mp h2 t p (by simpa using ht)
        simpa [cutF] using this
    · intro h
      refine ⟨h 0 q rfl, (nc_iff rs).mpr fun t p ht => ?_⟩
      have := h (t + 1) p (by simpa using ht)
      simpa [cutF] using this
theorem nc_take {rs : List (Wd × Wd)} {x y : Rw} (n : Nat) (h : NC rs x y) : NC (rs.take n) x y := by
  refine (nc_iff _).mpr fun t p ht => ?_
  have hl : t < n := by
    have := (List.getElem?_eq_some_iff.mp ht).1
    rw [List.length_take] at this; omega
  have ht' : rs[t]? = some p := by
    rw [List.getElem?_take_of_lt hl] at ht; exact ht
  have := (nc_iff rs).mp h t p ht'
  rwa [List.take_take, List.take_take, Nat.min_eq_left (by omega), Nat.min_eq_left (by omega)]
theorem pre_eq : ∀ (p q a b : Rw), NE (p ++ q) → p ++ q = a ++ b → p.flatten.length = a.flatten.length → p = a ∧ q = b
  | [], q, [], b, _, e, _ => ⟨rfl, e⟩
  | [], q, c :: a, b, h, e, l => by
    exfalso
    have e' : q = c :: (a ++ b) := e
    have := List.length_pos_iff.mpr (h c (by rw [e']; simp))
    simp only [List.flatten_cons, List.length_append, List.flatten_nil, List.length_nil] at l
    omega
  | c :: p, q, [], b, h, e, l => by
    exfalso
    have := List.length_pos_iff.mpr (h c (by simp))
    simp only [List.flatten_cons, List.length_append, List.flatten_nil, List.length_nil] at l
    omega
  | c :: p, q, d :: a, b, h, e, l => by
    obtain ⟨e1, e2⟩ : c = d ∧ p ++ q = a ++ b := by simpa using e
    subst e1
    simp only [List.flatten_cons, List.length_append] at l
    obtain ⟨e3, e4⟩ := pre_eq p q a b (fun x hx => h x (List.mem_cons_of_mem _ hx)) e2 (by omega)
    exact ⟨by rw [e3], e4⟩

section
variable {rs : List (Wd × Wd)}
theorem cut_append {u v : Wd} (h : NC rs (sg u) (sg v)) : Cut rs (u ++ v) = Cut rs u ++ Cut rs v := by
  unfold Cut; rw [sg_append]; exact nc_append rs h
theorem cut_split (hp : PosR rs) {u : Wd} {a b : Rw} (h : Cut rs u = a ++ b) : Cut rs a.flatten = a ∧ Cut rs b.flatten = b ∧ NC rs (sg a.flatten) (sg b.flatten) := by
  have e : u = a.flatten ++ b.flatten := by rw [← flat_Cut rs u, h, List.flatten_append]
  have n : NC rs (sg a.flatten) (sg b.flatten) := by
    refine nc_of_spl rs hp ⟨a, b, ?_, by rw [flat_sg]⟩
    rw [← sg_append, ← e]; exact h
  have e2 : Cut rs a.flatten ++ Cut rs b.flatten = a ++ b := by rw [← cut_append n, ← e, h]
  have hne : NE (Cut rs a.flatten ++ Cut rs b.flatten) := by
    rw [e2, ← h]; exact ne_Cut hp u
  obtain ⟨e3, e4⟩ := pre_eq _ _ _ _ hne e2 (by rw [flat_Cut])
  exact ⟨e3, e4, n⟩
/-- each piece alone, each two neighbours -/
def Good (rs : List (Wd × Wd)) : Rw → Prop
  | [] => True
  | [p] => Cut rs p = [p]
  | p :: q :: r => Cut rs (p ++ q) = [p, q] ∧ Good rs (q :: r)
theorem two_alone (hp : PosR rs) {p q : Wd} (h : Cut rs (p ++ q) = [p, q]) : Cut rs p = [p] ∧ Cut rs q = [q] ∧ NC rs (sg p) (sg q) := by
  have := cut_split hp (a := [p]) (b := [q]) h
  simpa using this
theorem two_of {p q : Wd} (h1 : Cut rs p = [p]) (h2 : Cut rs q = [q]) (h : NC rs (sg p) (sg q)) : Cut rs (p ++ q) = [p, q] := by
  rw [cut_append h, h1, h2]; rfl
theorem good_cut (hp : PosR rs) : ∀ row : Rw, Good rs row → Cut rs row.flatten = row
  | [], _ => by
    cases e : Cut rs ([] : Rw).flatten with
    | nil => rfl
    | cons a r =>
      have h1 := ne_Cut hp ([] : Rw).flatten a (by rw [e]; simp)
      have h2 := flat_Cut rs ([] : Rw).flatten
      rw [e] at h2
      have : a = [] := by
        have := congrArg List.length h2
        simp only [List.flatten_cons, List.length_append, List.flatten_nil, List.length_nil] at this
        exact List.length_eq_zero_iff.mp (by omega)
      exact absurd this h1
  | [p], h => by
    have h' : Cut rs p = [p] := h
    simpa using h'
  | p :: q :: r, h => by
    have ih := good_cut hp (q :: r) h.2
    obtain ⟨a1, a2, n⟩ := two_alone hp h.1
    have hq : q ≠ [] := ne_Cut hp q q (by rw [a2]; simp)
    have n2 : NC rs (sg q) (sg r.flatten) := by
      have := (cut_split hp (a := [q]) (b := r) ih).2.2
      simpa using this
    have n3 : NC rs (sg p) (sg (q ++ r.flatten)) := by
      rw [sg_append]; exact nc_right rs (sg_ne hq) n n2
    show Cut rs (p ++ (q ++ r.flatten)) = _
    rw [cut_append n3, a1]
    have : Cut rs (q ++ r.flatten) = q :: r := ih
    rw [this]; rfl
theorem cut_good (hp : PosR rs) : ∀ (row : Rw) (u : Wd), Cut rs u = row → Good rs row
  | [], _, _ => trivial
  | [p], u, h => by
    have := (cut_split hp (a := [p]) (b := []) h).1
    simpa [Good] using this
  | p :: q :: r, u, h => by
    have h1 := cut_split hp (a := [p, q]) (b := r) h
    have h2 := cut_split hp (a := [p]) (b := q :: r) h
    exact ⟨by simpa using h1.1, cut_good hp (q :: r) _ h2.2.1⟩
theorem good_mem (hp : PosR rs) : ∀ (row : Rw), Good rs row → ∀ p ∈ row, Cut rs p = [p]
  | [], _, _, h => by simp at h
  | [p], h, q, hq => by
    have e : q = p := by simpa using hq
    subst e; exact h
  | p :: q :: r, h, x, hx => by
    rcases List.mem_cons.mp hx with e | hx
    · subst e; exact (two_alone hp h.1).1
    · exact good_mem hp (q :: r) h.2 x hx
theorem good_pair : ∀ (row : Rw), Good rs row → ∀ k p q, row[k]? = some p → row[k + 1]? = some q → Cut rs (p ++ q) = [p, q]
  | [], _, k, _, _, h, _ => by simp at h
  | [p], h, k, x, y, h1, h2 => by simp at h2
  | p :: q :: r, h, 0, x, y, h1, h2 => by
    have e1 : p = x := by simpa using h1
    have e2 : q = y := by simpa using h2
    subst e1; subst e2; exact h.1
  | p :: q :: r, h, k + 1, x, y, h1, h2 => good_pair (q :: r) h.2 k x y (by simpa using h1) (by simpa using h2)
theorem good_snoc : ∀ (row : Rw) (p q : Wd), Good rs (row ++ [p]) → Cut rs (p ++ q) = [p, q] → Cut rs q = [q] → Good rs (row ++ [p] ++ [q])
  | [], p, q, _, h, hq => ⟨h, hq⟩
  | [a], p, q, h, h2, hq => ⟨h.1, h2, hq⟩
  | a :: b :: r, p, q, h, h2, hq => ⟨h.1, good_snoc (b :: r) p q h.2 h2 hq⟩
theorem good_last (hp : PosR rs) (row : Rw) (p q : Wd) (h : Cut rs (row ++ [p, q]).flatten = row ++ [p, q]) : Cut rs (p ++ q) = [p, q] := by
  have := (cut_split hp (a := row) (b := [p, q]) h).2.1
  simpa using this
end
end JR
namespace JR
/-- a table: its signs (code points), its rows -/
structure Tab where
  signs : Wd
  rows : List (Wd × Wd)
def jn (p : Wd × Wd) : Wd := p.1 ++ p.2
def Tab.pieces (T : Tab) : Rw := sg T.signs ++ T.rows.map jn
def Tab.before (T : Tab) (k : Nat) : Rw := sg T.signs ++ (T.rows.take k).map jn
structure Tab.Ok (T : Tab) : Prop where
  nd : T.signs.Nodup
  row : ∀ k p, T.rows[k]? = some p → p.1 ∈ T.before k ∧ p.2 ∈ T.before k ∧ jn p ∉ T.before k ∧ (jn p).length ≤ 16
def Tab.num (T : Tab) (p : Wd) : Nat := T.pieces.idxOf p
def Tab.own (T : Tab) (p : Wd) : Int := (T.num p : Int) - (T.signs.length : Int)
def Tab.parts (T : Tab) (p : Wd) : Option (Wd × Wd) := if T.num p < T.signs.length then none else T.rows[T.num p - T.signs.length]?
def Tab.rank (T : Tab) (x y : Wd) : Option Nat := T.rows.idxOf? (x, y)
def alone (T : Tab) (p : Wd) : Prop := Cut T.rows p = [p]
instance (T : Tab) (p : Wd) : Decidable (alone T p) := inferInstanceAs (Decidable (Cut T.rows p = [p]))

theorem len_sg (u : Wd) : (sg u).length = u.length := by simp [sg]
section
variable {T : Tab}
theorem len_pieces : T.pieces.length = T.signs.length + T.rows.length := by simp [Tab.pieces, len_sg]
theorem len_before {k : Nat} (h : k ≤ T.rows.length) : (T.before k).length = T.signs.length + k := by
  simp [Tab.before, len_sg, Nat.min_eq_left h]
theorem before_take {k : Nat} (h : k ≤ T.rows.length) : T.before k = T.pieces.take (T.signs.length + k) := by
  unfold Tab.before Tab.pieces
  rw [List.take_append, List.take_of_length_le (l := sg T.signs) (by rw [len_sg]; omega), len_sg, List.map_take, Nat.add_sub_cancel_left]
theorem before_mono {j k : Nat} (h : j ≤ k) {p : Wd} (hp : p ∈ T.before j) : p ∈ T.before k := by
  unfold Tab.before at *
  rcases List.mem_append.mp hp with h1 | h1
  · exact List.mem_append_left _ h1
  · refine List.mem_append_right _ ?_
    obtain ⟨q, hq, e⟩ := List.mem_map.mp h1
    refine List.mem_map.mpr ⟨q, ?_, e⟩
    have : T.rows.take j = (T.rows.take k).take j := by rw [List.take_take, Nat.min_eq_left h]
    rw [this] at hq
    exact List.mem_of_mem_take hq
theorem before_sub (k : Nat) {p : Wd} (hp : p ∈ T.before k) : p ∈ T.pieces := by
  unfold Tab.before at hp
  rcases List.mem_append.mp hp with h1 | h1
  · exact List.mem_append_left _ h1
  · obtain ⟨q, hq, e⟩ := List.mem_map.mp h1
    exact List.mem_append_right _ (List.mem_map.mpr ⟨q, List.mem_of_mem_take hq, e⟩)
theorem before_succ {k : Nat} {p : Wd × Wd} (h : T.rows[k]? = some p) : T.before (k + 1) = T.before k ++ [jn p] := by
  unfold Tab.before
  rw [List.take_add_one, h]
  simp
theorem pieces_all : T.pieces = T.before T.rows.length := by simp [Tab.before, Tab.pieces]
theorem nodup_sg {u : Wd} (h : u.Nodup) : (sg u).Nodup := by
  induction u with
  | nil => exact List.nodup_nil
  | cons c r ih =>
    obtain ⟨h1, h2⟩ := List.nodup_cons.mp h
    refine List.nodup_cons.mpr ⟨fun q => h1 ?_, ih h2⟩
    obtain ⟨d, hd, e⟩ := List.mem_map.mp q
    have : d = c := by simpa using e
    rwa [this] at hd
variable (ok : T.Ok)
include ok
theorem nodup_before : ∀ k, k ≤ T.rows.length → (T.before k).Nodup
  | 0, _ => by simpa [Tab.before] using nodup_sg ok.nd
  | k + 1, h => by
    have hk : k < T.rows.length := h
    have e : T.rows[k]? = some T.rows[k] := List.getElem?_eq_getElem hk
    rw [before_succ e]
    refine List.nodup_append.mpr ⟨nodup_before k (Nat.le_of_lt hk), by simp, fun a ha b hb z => ?_⟩
    have : b = jn T.rows[k] := by simpa using hb
    subst this; subst z
    exact (ok.row k _ e).2.2.1 ha
theorem nodup_pieces : T.pieces.Nodup := by rw [pieces_all]; exact nodup_before ok _ (Nat.le_refl _)
theorem num_of {i : Nat} {p : Wd} (h : T.pieces[i]? = some p) : T.num p = i := by
  obtain ⟨hi, e⟩ := List.getElem?_eq_some_iff.mp h
  unfold Tab.num
  rw [← e]
  exact (nodup_pieces ok).idxOf_getElem i hi
omit ok in
theorem num_get {p : Wd} (h : p ∈ T.pieces) : T.pieces[T.num p]? = some p := by
  have hl : T.num p < T.pieces.length := List.idxOf_lt_length_of_mem h
  rw [List.getElem?_eq_getElem hl]
  exact congrArg some (List.getElem_idxOf hl)
omit ok in
theorem row_at {k : Nat} {p : Wd × Wd} (h : T.rows[k]? = some p) : T.pieces[T.signs.length + k]? = some (jn p) := by
  unfold Tab.pieces
  rw [List.getElem?_append_right (by rw [len_sg]; omega), len_sg, Nat.add_sub_cancel_left, List.getElem?_map, h]
  rfl
theorem num_row {k : Nat} {p : Wd × Wd} (h : T.rows[k]? = some p) : T.num (jn p) = T.signs.length + k := num_of ok (row_at h)
theorem own_row {k : Nat} {p : Wd × Wd} (h : T.rows[k]? = some p) : T.own (jn p) = k := by
  unfold Tab.own; rw [num_row ok h]; omega
theorem num_before {k : Nat} (hk : k ≤ T.rows.length) {p : Wd} (h : p ∈ T.before k) : T.num p < T.signs.length + k := by
  rw [before_take hk] at h
  obtain ⟨i, hi, e⟩ := List.mem_iff_getElem.mp h
  rw [List.getElem_take] at e
  rw [List.length_take] at hi
  have : T.pieces[i]? = some p := by rw [List.getElem?_eq_getElem (by omega), e]
  rw [num_of ok this]; omega
theorem own_before {k : Nat} (hk : k ≤ T.rows.length) {p : Wd} (h : p ∈ T.before k) : T.own p < k := by
  have := num_before ok hk h
  unfold Tab.own; omega
theorem row_lt {k : Nat} {p : Wd × Wd} (h : T.rows[k]? = some p) : k < T.rows.length := (List.getElem?_eq_some_iff.mp h).1
theorem own_left {k : Nat} {p : Wd × Wd} (h : T.rows[k]? = some p) : T.own p.1 < k := own_before ok (Nat.le_of_lt (row_lt ok h)) (ok.row k p h).1
theorem own_right {k : Nat} {p : Wd × Wd} (h : T.rows[k]? = some p) : T.own p.2 < k := own_before ok (Nat.le_of_lt (row_lt ok h)) (ok.row k p h).2.1
theorem left_mem {k : Nat} {p : Wd × Wd} (h : T.rows[k]? = some p) : p.1 ∈ T.pieces := before_sub k (ok.row k p h).1
theorem right_mem {k : Nat} {p : Wd × Wd} (h : T.rows[k]? = some p) : p.2 ∈ T.pieces := before_sub k (ok.row k p h).2.1
theorem parts_row {k : Nat} {p : Wd × Wd} (h : T.rows[k]? = some p) : T.parts (jn p) = some p := by
  unfold Tab.parts
  rw [num_row ok h, if_neg (by omega), Nat.add_sub_cancel_left, h]
omit ok in
/-- a piece is a sign or made by a row -/
theorem piece_cases {p : Wd} (h : p ∈ T.pieces) : (∃ c ∈ T.signs, p = [c]) ∨ ∃ (k : Nat) (q : Wd × Wd), T.rows[k]? = some q ∧ p = jn q := by
  rcases List.mem_append.mp h with h | h
  · obtain ⟨c, hc, e⟩ := List.mem_map.mp h
    exact .inl ⟨c, hc, e.symm⟩
  · obtain ⟨q, hq, e⟩ := List.mem_map.mp h
    obtain ⟨k, hk⟩ := List.mem_iff_getElem?.mp hq
    exact .inr ⟨k, q, hk, e.symm⟩
theorem num_sign {c : Nat} (h : c ∈ T.signs) : T.num [c] < T.signs.length := by
  have : [c] ∈ T.before 0 := by
    unfold Tab.before
    exact List.mem_append_left _ (List.mem_map.mpr ⟨c, h, rfl⟩)
  exact num_before ok (Nat.zero_le _) this
theorem own_sign {c : Nat} (h : c ∈ T.signs) : T.own [c] < 0 := by
  have := num_sign ok h
  unfold Tab.own; omega
theorem parts_sign {c : Nat} (h : c ∈ T.signs) : T.parts [c] = none := by
  unfold Tab.parts; rw [if_pos (num_sign ok h)]
theorem rank_iff {x y : Wd} {k : Nat} : T.rank x y = some k ↔ T.rows[k]? = some (x, y) := by
  have key : ∀ j k, T.rows[j]? = some (x, y) → T.rows[k]? = some (x, y) → j = k := fun j k h1 h2 => by
    have e1 := num_row ok h1
    have e2 := num_row ok h2
    omega
  constructor
  · intro h
    unfold Tab.rank at h
    obtain ⟨hi, e⟩ := List.idxOf?_eq_some_iff.mp h
    rw [List.getElem?_eq_getElem hi, e.1]
  · intro h
    cases e : T.rank x y with
    | none =>
      exfalso
      have := List.idxOf?_eq_none_iff.mp e
      exact this (List.mem_of_getElem? h)
    | some j =>
      have e' := e
      unfold Tab.rank at e'
      obtain ⟨hi, e2⟩ := List.idxOf?_eq_some_iff.mp e'
      rw [key j k (by rw [List.getElem?_eq_getElem hi, e2.1]) h]
theorem piece_ne : ∀ p ∈ T.pieces, p ≠ [] := by
  have key : ∀ n, ∀ p ∈ T.pieces, T.num p ≤ n → p ≠ [] := by
    intro n
    induction n with
    | zero =>
      intro p hp hn
      rcases piece_cases hp with ⟨c, _, e⟩ | ⟨k, q, hq, e⟩
      · rw [e]; simp
      · exfalso
        have h1 := num_row ok hq
        have h2 := num_before ok (Nat.le_of_lt (row_lt ok hq)) (ok.row k q hq).1
        rw [← e] at h1; omega
    | succ n ih =>
      intro p hp hn
      rcases piece_cases hp with ⟨c, _, e⟩ | ⟨k, q, hq, e⟩
      · rw [e]; simp
      · have h1 := num_row ok hq
        have h2 := num_before ok (Nat.le_of_lt (row_lt ok hq)) (ok.row k q hq).1
        rw [← e] at h1
        have := ih q.1 (left_mem ok hq) (by omega)
        rw [e]; unfold jn; simp [this]
  exact fun p hp => key _ p hp (Nat.le_refl _)
theorem posR : PosR T.rows := fun p hp => by
  obtain ⟨k, hk⟩ := List.mem_iff_getElem?.mp hp
  exact ⟨piece_ne ok _ (left_mem ok hk), piece_ne ok _ (right_mem ok hk)⟩
theorem piece_len : ∀ p ∈ T.pieces, 1 ≤ p.length ∧ p.length ≤ 16 := fun p hp => by
  refine ⟨List.length_pos_iff.mpr (piece_ne ok p hp), ?_⟩
  rcases piece_cases hp with ⟨c, _, e⟩ | ⟨k, q, hq, e⟩
  · rw [e]; simp
  · rw [e]; exact (ok.row k q hq).2.2.2
/-- the cutting of a text of the table has pieces alone -/
theorem cut_mem {u : Wd} (hu : ∀ c ∈ u, c ∈ T.signs) : ∀ p ∈ Cut T.rows u, p ∈ T.pieces := fun p hp => by
  rcases mem_cutF T.rows (sg u) hp with h | ⟨q, hq, e⟩
  · obtain ⟨c, hc, e⟩ := List.mem_map.mp h
    exact List.mem_append_left _ (List.mem_map.mpr ⟨c, hu c hc, e⟩)
  · exact List.mem_append_right _ (List.mem_map.mpr ⟨q, hq, e.symm⟩)
theorem piece_signs : ∀ p ∈ T.pieces, ∀ c ∈ p, c ∈ T.signs := by
  have key : ∀ n, ∀ p ∈ T.pieces, T.num p < n → ∀ c ∈ p, c ∈ T.signs := by
    intro n
    induction n with
    | zero => intro p _ h; omega
    | succ n ih =>
      intro p hp hn c hc
      rcases piece_cases hp with ⟨d, hd, e⟩ | ⟨k, q, hq, e⟩
      · rw [e] at hc
        have : c = d := by simpa using hc
        rwa [this]
      · have h1 := num_row ok hq
        have h2 := num_before ok (Nat.le_of_lt (row_lt ok hq)) (ok.row k q hq).1
        have h3 := num_before ok (Nat.le_of_lt (row_lt ok hq)) (ok.row k q hq).2.1
        rw [e] at hc hn
        rcases List.mem_append.mp hc with hc | hc
        · exact ih q.1 (left_mem ok hq) (by omega) c hc
        · exact ih q.2 (right_mem ok hq) (by omega) c hc
  exact fun p hp => key _ p hp (Nat.lt_succ_self _)
theorem sign_alone {c : Nat} (h : c ∈ T.signs) : alone T [c] := cutF_one [c] T.rows

/-! ### edges -/
end
/-- the right (s = true) or left edge of a piece -/
inductive Edge (T : Tab) (s : Bool) : Wd → Rw → Prop where
  | sign {p : Wd} : T.parts p = none → Edge T s p [p]
  | more {p : Wd} {q : Wd × Wd} {es : Rw} : T.parts p = some q → Edge T s (if s then q.2 else q.1) es → Edge T s p (p :: es)
theorem Edge.cons {T : Tab} {s : Bool} {p : Wd} {es : Rw} (h : Edge T s p es) : ∃ r, es = p :: r := by
  cases h with
  | sign _ => exact ⟨_, rfl⟩
  | more _ _ => exact ⟨_, rfl⟩
theorem edge_uniq {T : Tab} {s : Bool} {p : Wd} {es fs : Rw} (h : Edge T s p es) (h' : Edge T s p fs) : es = fs := by
  induction h generalizing fs with
  | sign h1 =>
    cases h' with
    | sign _ => rfl
    | more h2 _ => rw [h1] at h2; cases h2
  | more h1 _ ih =>
    cases h' with
    | sign h2 => rw [h1] at h2; cases h2
    | more h2 h3 =>
      rw [h1] at h2; cases h2
      rw [ih h3]
section
variable {T : Tab} (ok : T.Ok)
include ok
theorem edge_ex (s : Bool) : ∀ p ∈ T.pieces, ∃ es, Edge T s p es := by
  have key : ∀ n, ∀ p ∈ T.pieces, T.num p < n → ∃ es, Edge T s p es := by
    intro n
    induction n with
    | zero => intro p _ h; omega
    | succ n ih =>
      intro p hp hn
      rcases piece_cases hp with ⟨d, hd, e⟩ | ⟨k, q, hq, e⟩
      · exact ⟨[p], .sign (by rw [e]; exact parts_sign ok hd)⟩
      · have h1 := num_row ok hq
        have h2 := num_before ok (Nat.le_of_lt (row_lt ok hq)) (ok.row k q hq).1
        have h3 := num_before ok (Nat.le_of_lt (row_lt ok hq)) (ok.row k q hq).2.1
        rw [e] at hn
        have hx : (if s then q.2 else q.1) ∈ T.pieces := by cases s; exact left_mem ok hq; exact right_mem ok hq
        obtain ⟨es, he⟩ := ih (if s then q.2 else q.1) hx (by cases s <;> simp <;> omega)
        exact ⟨p :: es, .more (by rw [e]; exact parts_row ok hq) he⟩
  exact fun p hp => key _ p hp (Nat.lt_succ_self _)
theorem parts_some {p : Wd} {q : Wd × Wd} (hp : p ∈ T.pieces) (h : T.parts p = some q) : ∃ (k : Nat), T.rows[k]? = some q ∧ p = jn q := by
  rcases piece_cases hp with ⟨d, hd, e⟩ | ⟨k, q', hq, e⟩
  · rw [e, parts_sign ok hd] at h; cases h
  · rw [e, parts_row ok hq] at h; cases h; exact ⟨k, hq, e⟩
theorem edge_mem {s : Bool} {p : Wd} {es : Rw} (h : Edge T s p es) (hp : p ∈ T.pieces) : ∀ e ∈ es, e ∈ T.pieces := by
  induction h with
  | @sign p h1 =>
    intro e he
    have : e = p := by simpa using he
    rw [this]; exact hp
  | @more p q es h1 h2 ih =>
    obtain ⟨k, hk, e1⟩ := parts_some ok hp h1
    intro e he
    rcases List.mem_cons.mp he with e2 | he
    · rw [e2]; exact hp
    · exact ih (by cases s; exact left_mem ok hk; exact right_mem ok hk) e he
theorem edge_desc {s : Bool} {p : Wd} {es : Rw} (h : Edge T s p es) (hp : p ∈ T.pieces) : ∀ (i : Nat) (x y : Wd), es[i]? = some x → es[i + 1]? = some y → T.own y < T.own x := by
  induction h with
  | sign _ => intro i x y _ h2; simp at h2
  | @more p q es h1 h2 ih =>
    obtain ⟨k, hk, e1⟩ := parts_some ok hp h1
    intro i x y hx hy
    cases i with
    | zero =>
      have ex : p = x := by simpa using hx
      obtain ⟨r, er⟩ := h2.cons
      rw [er] at hy
      have ey : (if s then q.2 else q.1) = y := by simpa using hy
      subst ex; subst ey
      have h3 := own_left ok hk
      have h4 := own_right ok hk
      rw [e1, own_row ok hk]
      cases s
      · exact h3
      · exact h4
    | succ i => exact ih (by cases s; exact left_mem ok hk; exact right_mem ok hk) i x y (by simpa using hx) (by simpa using hy)
theorem edge_last {s : Bool} {p : Wd} {es : Rw} (h : Edge T s p es) (hp : p ∈ T.pieces) : ∃ x ∈ es, T.own x < 0 := by
  induction h with
  | @sign p h1 =>
    refine ⟨p, by simp, ?_⟩
    rcases piece_cases hp with ⟨d, hd, e⟩ | ⟨k, q', hq, e⟩
    · rw [e]; exact own_sign ok hd
    · rw [e, parts_row ok hq] at h1; cases h1
  | @more p q es h1 h2 ih =>
    obtain ⟨k, hk, e1⟩ := parts_some ok hp h1
    obtain ⟨x, hx, h3⟩ := ih (by cases s; exact left_mem ok hk; exact right_mem ok hk)
    exact ⟨x, List.mem_cons_of_mem _ hx, h3⟩

/-! ### a piece that stands alone, pass by pass -/
/-- the row of u ahead of pass t -/
theorem drop_cut (t : Nat) (u : Wd) : Cut T.rows u = cutF (T.rows.drop t) (cutF (T.rows.take t) (sg u)) := by
  unfold Cut
  conv => lhs; rw [← List.take_append_drop t T.rows]
  rw [cutF_append]
theorem flat_st (t : Nat) (u : Wd) : (cutF (T.rows.take t) (sg u)).flatten = u := (flat_cutF _ _).trans (flat_sg u)
theorem ne_st (t : Nat) (u : Wd) : NE (cutF (T.rows.take t) (sg u)) := ne_cutF _ _ (fun p hp => posR ok p (List.mem_of_mem_take hp)) (ne_sg u)
omit ok in
/-- a row of non-empty pieces that holds its own whole text is that piece -/
theorem one_of {x : Rw} {p : Wd} (hn : NE x) (h : p ∈ x) (e : x.flatten = p) : x = [p] := by
  obtain ⟨a, b, rfl⟩ := List.append_of_mem h
  have hl : (a ++ p :: b).flatten.length = p.length := by rw [e]
  simp only [List.flatten_append, List.flatten_cons, List.length_append] at hl
  have ha : a = [] := by
    cases a with
    | nil => rfl
    | cons c r =>
      have := List.length_pos_iff.mpr (hn c (by simp))
      simp only [List.flatten_cons, List.length_append] at hl
      omega
  have hb : b = [] := by
    cases b with
    | nil => rfl
    | cons c r =>
      have := List.length_pos_iff.mpr (hn c (by simp))
      simp only [List.flatten_cons, List.length_append] at hl
      omega
  rw [ha, hb]; rfl
theorem alone_of_st {t : Nat} {p : Wd} (h : cutF (T.rows.take t) (sg p) = [p]) : alone T p := by
  unfold alone; rw [drop_cut ok t, h, cutF_one]
/-- behind its own pass a piece that stands alone is one -/
theorem st_late {p : Wd} (hp : p ∈ T.pieces) (ha : alone T p) {t : Nat} (h : T.own p < t) : cutF (T.rows.take t) (sg p) = [p] := by
  have hm : p ∈ cutF (T.rows.drop t) (cutF (T.rows.take t) (sg p)) := by
    rw [← drop_cut ok t]
    have : Cut T.rows p = [p] := ha
    rw [this]; simp
  rcases mem_cutF _ _ hm with h1 | ⟨q, hq, e⟩
  · exact one_of (ne_st ok t p) h1 (flat_st ok t p)
  · exfalso
    obtain ⟨j, hj⟩ := List.mem_iff_getElem?.mp hq
    rw [List.getElem?_drop] at hj
    have := own_row ok hj
    rw [show p = jn q from e, this] at h
    omega
/-- ahead of it, it is its parts -/
theorem alone_parts {k : Nat} {q : Wd × Wd} (hq : T.rows[k]? = some q) (ha : alone T (jn q)) :
    NC (T.rows.take k) (sg q.1) (sg q.2) ∧ alone T q.1 ∧ alone T q.2 := by
  have hk := row_lt ok hq
  have e1 : cutF (T.rows.take (k + 1)) (sg (jn q)) = [jn q] := st_late ok (List.mem_of_getElem? (row_at hq)) ha (by rw [own_row ok hq]; omega)
  rw [List.take_add_one, hq, cutF_append] at e1
  have e2 : pass q.1 q.2 (cutF (T.rows.take k) (sg (jn q))) = [jn q] := e1
  have hnot : jn q ∉ cutF (T.rows.take k) (sg (jn q)) := fun hm => by
    have hb : jn q ∈ T.before k := by
      rcases mem_cutF _ _ hm with h1 | ⟨r, hr, e⟩
      · obtain ⟨c, hc, e⟩ := List.mem_map.mp h1
        refine List.mem_append_left _ (List.mem_map.mpr ⟨c, ?_, e⟩)
        exact piece_signs ok _ (List.mem_of_getElem? (row_at hq)) c hc
      · exact List.mem_append_right _ (List.mem_map.mpr ⟨r, hr, e.symm⟩)
    exact (ok.row k q hq).2.2.1 hb
  have hs : cutF (T.rows.take k) (sg (jn q)) = [q.1, q.2] := by
    generalize hx : cutF (T.rows.take k) (sg (jn q)) = x at e2 hnot
    have hne : NE x := by rw [← hx]; exact ne_st ok k _
    match x, e2, hnot, hne with
    | [], e2, _, _ => simp [pass] at e2
    | [a], e2, hnot, _ => exact absurd (by simpa [pass] using e2.symm) hnot
    | a :: b :: r, e2, hnot, hne =>
      by_cases c : a = q.1 ∧ b = q.2
      · rw [pass_two c] at e2
        have e3 : pass q.1 q.2 r = [] := (List.cons.inj e2).2
        have e4 : r = [] := by
          cases r with
          | nil => rfl
          | cons z r' => exact absurd e3 (pass_cons_ne _ _)
        rw [c.1, c.2, e4]
      · rw [pass_one c] at e2
        exact absurd (List.cons.inj e2).2 (pass_cons_ne _ _)
  have hn : NC (T.rows.take k) (sg q.1) (sg q.2) := by
    refine nc_of_spl _ (fun p hp => posR ok p (List.mem_of_mem_take hp)) ⟨[q.1], [q.2], ?_, by simp [flat_sg]⟩
    rw [← sg_append]; exact hs
  have e5 : cutF (T.rows.take k) (sg q.1) ++ cutF (T.rows.take k) (sg q.2) = [q.1] ++ [q.2] := by
    rw [← nc_append _ hn, ← sg_append]; exact hs
  have hne : NE (cutF (T.rows.take k) (sg q.1) ++ cutF (T.rows.take k) (sg q.2)) := fun p hp => by
    rcases List.mem_append.mp hp with h | h
    · exact ne_st ok k _ p h
    · exact ne_st ok k _ p h
  obtain ⟨e6, e7⟩ := pre_eq _ _ _ _ hne e5 (by rw [flat_st ok]; simp)
  exact ⟨hn, alone_of_st ok e6, alone_of_st ok e7⟩
theorem alone_make {k : Nat} {q : Wd × Wd} (hq : T.rows[k]? = some q) (h1 : alone T q.1) (h2 : alone T q.2) (hn : NC (T.rows.take k) (sg q.1) (sg q.2)) : alone T (jn q) := by
  have e1 : cutF (T.rows.take (k + 1)) (sg (jn q)) = [jn q] := by
    rw [List.take_add_one, hq, cutF_append]
    show pass q.1 q.2 (cutF (T.rows.take k) (sg (q.1 ++ q.2))) = _
    rw [sg_append, nc_append _ hn, st_late ok (left_mem ok hq) h1 (own_left ok hq), st_late ok (right_mem ok hq) h2 (own_right ok hq)]
    show pass q.1 q.2 [q.1, q.2] = _
    rw [pass_two ⟨rfl, rfl⟩]; rfl
  exact alone_of_st ok e1
/-- the last piece ahead of pass t: the first of the right edge that was made ahead of t -/
def FirstBelow (T : Tab) (es : Rw) (t : Nat) (x : Wd) : Prop := ∃ i, es[i]? = some x ∧ T.own x < t ∧ ∀ y, 0 < i → es[i - 1]? = some y → (t : Int) ≤ T.own y
theorem below_zero {s : Bool} {p : Wd} {es : Rw} (h : Edge T s p es) {t : Nat} (hl : T.own p < t) : FirstBelow T es t p := by
  obtain ⟨r, e⟩ := h.cons
  exact ⟨0, by rw [e]; rfl, hl, fun y hy => absurd hy (Nat.lt_irrefl _)⟩
theorem below_succ {p x : Wd} {es : Rw} {t : Nat} (h : FirstBelow T es t x) (hl : (t : Int) ≤ T.own p) : FirstBelow T (p :: es) t x := by
  obtain ⟨i, h1, h2, h3⟩ := h
  refine ⟨i + 1, by simpa using h1, h2, fun y _ hy => ?_⟩
  cases i with
  | zero =>
    have : p = y := by simpa using hy
    rw [← this]; exact hl
  | succ i => exact h3 y (Nat.succ_pos _) (by simpa using hy)
theorem st_right {p : Wd} {es : Rw} (h : Edge T true p es) (hp : p ∈ T.pieces) (ha : alone T p) (t : Nat) :
    ∃ x, FirstBelow T es t x ∧ (cutF (T.rows.take t) (sg p)).getLast? = some x := by
  induction h with
  | @sign p h1 =>
    rcases piece_cases hp with ⟨d, hd, e⟩ | ⟨k, q', hq, e⟩
    · have := own_sign ok hd
      have hl : T.own p < t := by rw [e]; omega
      exact ⟨p, below_zero ok (.sign (s := true) h1) hl, by rw [st_late ok hp ha hl]; rfl⟩
    · rw [e, parts_row ok hq] at h1; cases h1
  | @more p q es h1 h2 ih =>
    obtain ⟨k, hk, e1⟩ := parts_some ok hp h1
    by_cases hl : T.own p < t
    · exact ⟨p, below_zero ok (.more h1 h2) hl, by rw [st_late ok hp ha hl]; rfl⟩
    · subst e1
      rw [own_row ok hk] at hl
      obtain ⟨n, a1, a2⟩ := alone_parts ok hk ha
      obtain ⟨x, f, g⟩ := ih (right_mem ok hk) a2
      refine ⟨x, below_succ ok f (by rw [own_row ok hk]; omega), ?_⟩
      have n' := nc_take t n
      rw [List.take_take, Nat.min_eq_left (by omega)] at n'
      unfold jn
      rw [sg_append, nc_append _ n', List.getLast?_append]
      have g' : (cutF (T.rows.take t) (sg q.2)).getLast? = some x := g
      rw [g']; rfl
theorem st_left {p : Wd} {es : Rw} (h : Edge T false p es) (hp : p ∈ T.pieces) (ha : alone T p) (t : Nat) :
    ∃ x, FirstBelow T es t x ∧ (cutF (T.rows.take t) (sg p)).head? = some x := by
  induction h with
  | @sign p h1 =>
    rcases piece_cases hp with ⟨d, hd, e⟩ | ⟨k, q', hq, e⟩
    · have := own_sign ok hd
      have hl : T.own p < t := by rw [e]; omega
      exact ⟨p, below_zero ok (.sign (s := false) h1) hl, by rw [st_late ok hp ha hl]; rfl⟩
    · rw [e, parts_row ok hq] at h1; cases h1
  | @more p q es h1 h2 ih =>
    obtain ⟨k, hk, e1⟩ := parts_some ok hp h1
    by_cases hl : T.own p < t
    · exact ⟨p, below_zero ok (.more h1 h2) hl, by rw [st_late ok hp ha hl]; rfl⟩
    · subst e1
      rw [own_row ok hk] at hl
      obtain ⟨n, a1, a2⟩ := alone_parts ok hk ha
      obtain ⟨x, f, g⟩ := ih (left_mem ok hk) a1
      refine ⟨x, below_succ ok f (by rw [own_row ok hk]; omega), ?_⟩
      have n' := nc_take t n
      rw [List.take_take, Nat.min_eq_left (by omega)] at n'
      unfold jn
      rw [sg_append, nc_append _ n', List.head?_append]
      have g' : (cutF (T.rows.take t) (sg q.1)).head? = some x := g
      rw [g']; rfl
theorem desc_le {s : Bool} {p : Wd} {es : Rw} (h : Edge T s p es) (hp : p ∈ T.pieces) : ∀ (d i : Nat) (x y : Wd), es[i]? = some x → es[i + d]? = some y → T.own y ≤ T.own x := by
  intro d
  induction d with
  | zero => intro i x y h1 h2; rw [Nat.add_zero, h1] at h2; cases h2; exact Int.le_refl _
  | succ d ih =>
    intro i x y h1 h2
    have hl : i + d < es.length := by have := (List.getElem?_eq_some_iff.mp h2).1; omega
    have h3 := ih i x _ h1 (List.getElem?_eq_getElem hl)
    have h4 := edge_desc ok h hp (i + d) _ y (List.getElem?_eq_getElem hl) h2
    omega
theorem below_uniq {s : Bool} {p : Wd} {es : Rw} (h : Edge T s p es) (hp : p ∈ T.pieces) {t : Nat} {x y : Wd} (hx : FirstBelow T es t x) (hy : FirstBelow T es t y) : x = y := by
  obtain ⟨i, a1, a2, a3⟩ := hx
  obtain ⟨j, b1, b2, b3⟩ := hy
  have key : ∀ (i j : Nat) (x y : Wd), es[i]? = some x → es[j]? = some y → T.own x < t → (∀ z, 0 < j → es[j - 1]? = some z → (t : Int) ≤ T.own z) → ¬ i < j := by
    intro i j x y h1 h2 h3 h4 hij
    have hl : j - 1 < es.length := by have := (List.getElem?_eq_some_iff.mp h2).1; omega
    have h5 := h4 _ (by omega) (List.getElem?_eq_getElem hl)
    have h6 := desc_le ok h hp (j - 1 - i) i x es[j - 1] h1 (by rw [show i + (j - 1 - i) = j - 1 by omega]; exact List.getElem?_eq_getElem hl)
    omega
  have h1 := key i j x y a1 b1 a2 b3
  have h2 := key j i y x b1 a1 b2 a3
  have : i = j := by omega
  subst this
  rw [a1] at b1; exact Option.some.inj b1

/-! ### what joined_over seeks -/
def CrossAt (T : Tab) (es fs : Rw) (i j r : Nat) : Prop := ∃ x y, es[i]? = some x ∧ fs[j]? = some y ∧ T.rank x y = some r ∧ (∀ z, 0 < i → es[i - 1]? = some z → (r : Int) < T.own z) ∧ (∀ z, 0 < j → fs[j - 1]? = some z → (r : Int) ≤ T.own z)
def Cross (T : Tab) (es fs : Rw) (r : Nat) : Prop := ∃ i j, CrossAt T es fs i j r
def IsMin (P : Nat → Prop) : Option Nat → Prop
  | none => ∀ r, ¬ P r
  | some m => P m ∧ ∀ r, P r → m ≤ r
theorem cross_iff {p q : Wd} {es fs : Rw} (he : Edge T true p es) (hf : Edge T false q fs) (hp : p ∈ T.pieces) (hq : q ∈ T.pieces) (ap : alone T p) (aq : alone T q) (r : Nat) :
    Cross T es fs r ↔ ∃ c, T.rows[r]? = some c ∧ (cutF (T.rows.take (r + 1)) (sg p)).getLast? = some c.1 ∧ (cutF (T.rows.take r) (sg q)).head? = some c.2 := by
  obtain ⟨x', f1, g1⟩ := st_right ok he hp ap (r + 1)
  obtain ⟨y', f2, g2⟩ := st_left ok hf hq aq r
  constructor
  · rintro ⟨i, j, x, y, h1, h2, h3, h4, h5⟩
    have h3' := (rank_iff ok).mp h3
    have ex : FirstBelow T es (r + 1) x := ⟨i, h1, by have := own_left ok h3'; simp only at this; omega, fun z hz hz' => by have := h4 z hz hz'; omega⟩
    have ey : FirstBelow T fs r y := ⟨j, h2, own_right ok h3', fun z hz hz' => h5 z hz hz'⟩
    refine ⟨(x, y), h3', ?_, ?_⟩
    · rw [g1, below_uniq ok he hp f1 ex]
    · rw [g2, below_uniq ok hf hq f2 ey]
  · rintro ⟨c, hc, h1, h2⟩
    have e1 : x' = c.1 := by rw [g1] at h1; exact Option.some.inj h1
    have e2 : y' = c.2 := by rw [g2] at h2; exact Option.some.inj h2
    subst e1; subst e2
    obtain ⟨i, a1, a2, a3⟩ := f1
    obtain ⟨j, b1, b2, b3⟩ := f2
    exact ⟨i, j, c.1, c.2, a1, b1, (rank_iff ok).mpr hc, fun z hz hz' => by have := a3 z hz hz'; omega, fun z hz hz' => b3 z hz hz'⟩
/-- none: no joining goes over the border -/
theorem min_none {p q : Wd} {es fs : Rw} (he : Edge T true p es) (hf : Edge T false q fs) (hp : p ∈ T.pieces) (hq : q ∈ T.pieces) (ap : alone T p) (aq : alone T q) {o : Option Nat} (h : IsMin (Cross T es fs) o) :
    o = none ↔ NC T.rows (sg p) (sg q) := by
  rw [nc_iff]
  constructor
  · intro e t c hc z
    subst e
    exact h t ((cross_iff ok he hf hp hq ap aq t).mpr ⟨c, hc, z.1, z.2⟩)
  · intro n
    cases o with
    | none => rfl
    | some m =>
      obtain ⟨c, hc, z1, z2⟩ := (cross_iff ok he hf hp hq ap aq m).mp h.1
      exact absurd ⟨z1, z2⟩ (n m c hc)
/-- a row's own rank: its piece stands alone -/
theorem min_own {k : Nat} {q : Wd × Wd} {es fs : Rw} (hq : T.rows[k]? = some q) (he : Edge T true q.1 es) (hf : Edge T false q.2 fs) (a1 : alone T q.1) (a2 : alone T q.2) {o : Option Nat} (h : IsMin (Cross T es fs) o) :
    o = some k ↔ alone T (jn q) := by
  have ck : Cross T es fs k := by
    obtain ⟨r1, e1⟩ := he.cons
    obtain ⟨r2, e2⟩ := hf.cons
    exact ⟨0, 0, q.1, q.2, by rw [e1]; rfl, by rw [e2]; rfl, (rank_iff ok).mpr hq, fun z hz => absurd hz (Nat.lt_irrefl _), fun z hz => absurd hz (Nat.lt_irrefl _)⟩
  have main : o = some k ↔ ∀ r, Cross T es fs r → k ≤ r := by
    cases o with
    | none => exact absurd ck (h k)
    | some m =>
      constructor
      · intro e; cases e; exact h.2
      · intro z
        have h1 := h.2 k ck
        have h2 := z m h.1
        exact congrArg some (by omega)
  rw [main]
  have hiff : (∀ r, Cross T es fs r → k ≤ r) ↔ NC (T.rows.take k) (sg q.1) (sg q.2) := by
    rw [nc_iff]
    constructor
    · intro z t c hc w
      have hlt : t < k := by
        have := (List.getElem?_eq_some_iff.mp hc).1
        rw [List.length_take] at this; omega
      rw [List.getElem?_take_of_lt hlt] at hc
      rw [List.take_take, List.take_take, Nat.min_eq_left (by omega), Nat.min_eq_left (by omega)] at w
      have := z t ((cross_iff ok he hf (left_mem ok hq) (right_mem ok hq) a1 a2 t).mpr ⟨c, hc, w.1, w.2⟩)
      omega
    · intro n r hr
      obtain ⟨c, hc, z1, z2⟩ := (cross_iff ok he hf (left_mem ok hq) (right_mem ok hq) a1 a2 r).mp hr
      by_cases hlt : r < k
      · exfalso
        refine n r c (by rw [List.getElem?_take_of_lt hlt]; exact hc) ?_
        rw [List.take_take, List.take_take, Nat.min_eq_left (by omega), Nat.min_eq_left (by omega)]
        exact ⟨z1, z2⟩
      · omega
  rw [hiff]
  exact ⟨fun n => alone_make ok hq a1 a2 n, fun a => (alone_parts ok hq a).1⟩
end
end JR
namespace JR
/-! ### the quick reader -/
section
variable {T : Tab} (ok : T.Ok) {u : Wd}
include ok
theorem flat_len (r : Rw) (u : Wd) (h : Cut T.rows u = r) : r.flatten = u := by rw [← h]; exact flat_Cut _ _
theorem last_ok {b e : Nat} {p : Wd} (hb : b < e) (he : e ≤ u.length) (hp : p = (u.drop b).take (e - b)) (ha : alone T p) (h : b = 0 ∨ ∃ l, (Cut T.rows (u.take b)).getLast? = some l ∧ Cut T.rows (l ++ p) = [l, p]) :
    (Cut T.rows (u.take e)).getLast? = some p := by
  have hte : u.take e = u.take b ++ p := by
    rw [hp]
    have : e = b + (e - b) := by omega
    conv => lhs; rw [this]
    rw [List.take_add]
  rcases h with h | ⟨l, hl, hf⟩
  · subst h
    rw [hte, List.take_zero, List.nil_append]
    have : Cut T.rows p = [p] := ha
    rw [this]; rfl
  · obtain ⟨r, hr⟩ : ∃ r, Cut T.rows (u.take b) = r ++ [l] := by
      have hne : Cut T.rows (u.take b) ≠ [] := fun z => by rw [z] at hl; cases hl
      refine ⟨(Cut T.rows (u.take b)).dropLast, ?_⟩
      have e1 := List.dropLast_concat_getLast hne
      rw [List.getLast?_eq_some_getLast hne] at hl
      rw [← Option.some.inj hl]; exact e1.symm
    have g := cut_good (posR ok) _ _ hr
    have g2 := good_snoc r l p g hf ha
    have c := good_cut (posR ok) _ g2
    have fl : (r ++ [l] ++ [p]).flatten = u.take e := by
      rw [hte, List.flatten_append, ← hr, flat_Cut]; simp
    rw [fl] at c
    rw [c]; simp
theorem last_ex {e : Nat} (hu : ∀ c ∈ u, c ∈ T.signs) (h1 : 1 ≤ e) (he : e ≤ u.length) : ∃ b p, b < e ∧ p = (u.drop b).take (e - b) ∧ p ∈ T.pieces ∧ alone T p ∧ p.length = e - b ∧
    (Cut T.rows (u.take e)).getLast? = some p ∧ Cut T.rows (u.take e) = Cut T.rows (u.take b) ++ [p] ∧ (b = 0 ∨ ∃ l, (Cut T.rows (u.take b)).getLast? = some l ∧ Cut T.rows (l ++ p) = [l, p]) := by
  have hne : Cut T.rows (u.take e) ≠ [] := fun z => by
    have := flat_Cut T.rows (u.take e)
    rw [z] at this
    have := congrArg List.length this
    rw [List.length_take] at this
    simp at this; omega
  have e1 := List.dropLast_concat_getLast hne
  generalize hr : (Cut T.rows (u.take e)).dropLast = r at e1
  generalize hp : (Cut T.rows (u.take e)).getLast hne = p at e1
  have e2 : Cut T.rows (u.take e) = r ++ [p] := e1.symm
  have hpm : p ∈ T.pieces := cut_mem ok (fun c hc => hu c (List.mem_of_mem_take hc)) p (by rw [e2]; simp)
  obtain ⟨c1, c2, c3⟩ := cut_split (posR ok) e2
  have hl := piece_len ok p hpm
  have fl : r.flatten ++ p = u.take e := by
    have := flat_Cut T.rows (u.take e)
    rw [e2] at this
    simpa using this
  have len : r.flatten.length + p.length = e := by
    have := congrArg List.length fl
    rw [List.length_append, List.length_take] at this; omega
  have hb : u.take (e - p.length) = r.flatten := by
    have h3 : (u.take e).take (e - p.length) = r.flatten := by
      rw [← fl, List.take_append_of_le_length (by omega), List.take_of_length_le (by omega)]
    rw [← h3, List.take_take, Nat.min_eq_left (by omega)]
  have hpe : p = (u.drop (e - p.length)).take (e - (e - p.length)) := by
    have h3 : (u.take e).drop (e - p.length) = p := by
      rw [← fl, show e - p.length = r.flatten.length by omega, List.drop_left]
    rw [List.drop_take] at h3
    exact h3.symm
  have ha : alone T p := by show Cut T.rows p = [p]; simpa using c2
  refine ⟨e - p.length, p, by omega, hpe, hpm, ha, by omega, by rw [e2]; simp, by rw [hb, c1]; exact e2, ?_⟩
  by_cases hr0 : r = []
  · subst hr0
    left
    simp at len; omega
  · right
    have e3 := List.dropLast_concat_getLast hr0
    refine ⟨r.getLast hr0, by rw [hb, c1, List.getLast?_eq_some_getLast hr0], ?_⟩
    have e4 : Cut T.rows (u.take e) = r.dropLast ++ [r.getLast hr0, p] := by
      rw [e2]
      conv => lhs; rw [← e3]
      simp
    have := (cut_split (posR ok) e4).2.1
    simpa using this
theorem first_ok {b e : Nat} {p : Wd} (hb : b < e) (he : e ≤ u.length) (hp : p = (u.drop b).take (e - b)) (ha : alone T p) (h : e = u.length ∨ ∃ l, (Cut T.rows (u.drop e)).head? = some l ∧ Cut T.rows (p ++ l) = [p, l]) :
    Cut T.rows (u.drop b) = p :: Cut T.rows (u.drop e) := by
  have hte : u.drop b = p ++ u.drop e := by
    rw [hp]
    conv => lhs; rw [← List.take_append_drop (e - b) (u.drop b)]
    rw [List.drop_drop, show b + (e - b) = e by omega]
  rcases h with h | ⟨l, hl, hf⟩
  · subst h
    rw [hte, List.drop_length, List.append_nil]
    have h1 : Cut T.rows p = [p] := ha
    have h2 : Cut T.rows ([] : Wd) = [] := by
      have := good_cut (rs := T.rows) (posR ok) [] trivial
      simpa using this
    rw [h1, h2]
  · cases hc : Cut T.rows (u.drop e) with
    | nil => rw [hc] at hl; cases hl
    | cons q r =>
      rw [hc] at hl
      have hq : q = l := by simpa using hl
      subst hq
      have g := cut_good (posR ok) _ _ hc
      have g2 : Good T.rows (p :: q :: r) := ⟨hf, g⟩
      have c := good_cut (posR ok) _ g2
      have fl : (p :: q :: r).flatten = u.drop b := by
        rw [hte, ← flat_Cut T.rows (u.drop e), hc]; rfl
      rw [fl] at c
      exact c
theorem first_ex {b : Nat} (hu : ∀ c ∈ u, c ∈ T.signs) (hb : b < u.length) : ∃ e p, b < e ∧ e ≤ u.length ∧ p = (u.drop b).take (e - b) ∧ p ∈ T.pieces ∧ alone T p ∧ p.length = e - b ∧
    Cut T.rows (u.drop b) = p :: Cut T.rows (u.drop e) ∧ (e = u.length ∨ ∃ l, (Cut T.rows (u.drop e)).head? = some l ∧ Cut T.rows (p ++ l) = [p, l]) := by
  cases hc : Cut T.rows (u.drop b) with
  | nil =>
    exfalso
    have := flat_Cut T.rows (u.drop b)
    rw [hc] at this
    have := congrArg List.length this
    rw [List.length_drop] at this
    simp at this; omega
  | cons p r =>
    have hpm : p ∈ T.pieces := cut_mem ok (fun c hc => hu c (List.mem_of_mem_drop hc)) p (by rw [hc]; simp)
    have hl := piece_len ok p hpm
    have e2 : Cut T.rows (u.drop b) = [p] ++ r := hc
    obtain ⟨c1, c2, c3⟩ := cut_split (posR ok) e2
    have fl : p ++ r.flatten = u.drop b := by
      have := flat_Cut T.rows (u.drop b)
      rw [hc] at this
      simpa using this
    have len : p.length + r.flatten.length = u.length - b := by
      have := congrArg List.length fl
      rw [List.length_append, List.length_drop] at this; omega
    have hd : u.drop (b + p.length) = r.flatten := by
      rw [← List.drop_drop, ← fl, List.drop_left]
    have hpe : p = (u.drop b).take (b + p.length - b) := by
      rw [Nat.add_sub_cancel_left, ← fl, List.take_left]
    have ha : alone T p := by show Cut T.rows p = [p]; simpa using c1
    refine ⟨b + p.length, p, by omega, by omega, hpe, hpm, ha, by omega, by rw [hd, c2], ?_⟩
    cases r with
    | nil => left; simp at len; omega
    | cons q r' =>
      right
      refine ⟨q, by rw [hd, c2]; rfl, ?_⟩
      have e4 : Cut T.rows (u.drop b) = [p, q] ++ r' := hc
      have := (cut_split (posR ok) e4).1
      simpa using this
theorem cut_nil : Cut T.rows ([] : Wd) = [] := by
  have := good_cut (rs := T.rows) (posR ok) [] trivial
  simpa using this
end
end JR
namespace JR
open PySem PySem.Spec PyProof.Rows L2 SX

abbrev vS (p : Wd) : V := .str (S p)
def optN : Option Nat → V
  | none => .non
  | some n => .int (n : Int)

/-! ### list(text) -/
theorem call_listS {X : Cx} (hc : X.calm = true) : CallR X (.type "list") (fun xs H Q => ∃ u : Wd, xs = [vS u] ∧ u.length ≤ sizeLine ∧ ∀ l, H l = none → Q (.ref l) (upd H l (.lst ((sg u).map vS)))) := by
  intro pins s σ H xs us Q I r h
  obtain ⟨u, rfl, hz, q⟩ := h
  obtain ⟨u1, rfl, t, rfl⟩ := vals1 r
  have hn : (S u).cps.size = u.length := by simp [S]
  refine call_list_str (I.ok.hd hc) (S u) t (fun h' tk acc c' hk hl hacc => ?_) (by rw [hn]; exact hz)
  refine ⟨.ref s.heap.objs.size, upd H s.heap.objs.size (.lst ((sg u).map vS)), ?_, rfl, q _ (I.hok.fresh (Nat.le_refl _))⟩
  refine I.laid hk (Nat.le_refl _) ⟨by simpa [sg] using hz, acc.toList, c', ?_, by rw [hl]⟩
  have hsz : acc.size = (S u).cps.size := hacc.1
  refine L2.vals_of_at (by simp [sg, hsz, hn]) fun j x y hx hy => ?_
  obtain ⟨c, t', hcx, rfl⟩ := hacc.2 j y (by rw [Array.getElem?_toList] at hy; exact hy)
  have e2 : x = vS [c] := by
    have hc' : u[j]? = some c := by simpa [S] using hcx
    rw [List.getElem?_map] at hx
    unfold sg at hx
    rw [List.getElem?_map, hc'] at hx
    exact (Option.some.inj hx).symm
  subst e2
  exact ⟨t', rfl⟩

/-! ### enumerate(text) -/
theorem draws_str {prog : Program} {w : World} {A : Around} (hh : A.handled = none) (it : Addr) (x : Str) (t : Tok) : Draws prog w A it [it] x.cps.size (SignAt x) (fun i h => h.IsStrIter it (strIterType x) x t i) := by
  cases hx : x.cps.all (· < 128) with
  | true => rw [show strIterType x = "str_ascii_iterator" by unfold strIterType; rw [hx]; rfl]; exact Draws.strAscii hh it x t
  | false => rw [show strIterType x = "str_iterator" by unfold strIterType; rw [hx]; rfl]; exact Draws.strWide hh it x t
def Ites (x : Str) : It :=
  ⟨fun i _ => i < x.cps.size, fun i H v H' => ∃ T c, v = .ref T ∧ H T = none ∧ H' = upd H T (.tup [.int (i : Nat), .str ⟨#[c]⟩]) ∧ x.cps[i]? = some c, fun i _ => i = x.cps.size⟩
theorem turn_enumS {P : Program} {w : World} {K : PySem.W.Frag} {elts : List Expr} {kk : Nat} {tpos : Pos} (e it : Addr) (x : Str) (t : Tok) :
    Turn P w K (.Tuple elts kk tpos) (Ites x) [e, it] e (fun i h => (∃ old, IsEnum h e it ((i : Nat) : Int) old) ∧ h.IsStrIter it (strIterType x) x t i ∧ e ≠ it) where
  mem := by simp
  obj := fun i h st b hb => by
    obtain ⟨⟨old, he⟩, ⟨o, ho, hc, hd⟩, _⟩ := st
    have e' : b = e ∨ b = it := by simpa using hb
    rcases e' with z | z
    · rw [z]; exact ⟨_, he, fun v q => nomatch q⟩
    · rw [z]; exact ⟨o, ho, fun v q => by rw [hd] at q; cases q⟩
  keep := fun i h h' st k => by
    obtain ⟨⟨old, he⟩, ⟨o, ho, r⟩, hne⟩ := st
    exact ⟨⟨old, k e (by simp) _ he⟩, ⟨o, k it (by simp) o ho, r⟩, hne⟩
  item := by
    intro X hP hw hK hc i pins s σ H E I hf st hg
    subst hP hw hK
    obtain ⟨⟨old, he⟩, hit, hne⟩ := st
    have hel : e < s.heap.objs.size := Heap.lt_size he
    have hil : it < s.heap.objs.size := by obtain ⟨_, q, _⟩ := hit; exact Heap.lt_size q
    refine wpAny_pyNext_enum_itemD (draws_str (A := X.A.in1) (I.ok.hd hc) it x t) he hit hg hne (by simpa using hne) fun u h' tk hu ho hit' hT hsz hk => ?_
    obtain ⟨c, t', hcx, rfl⟩ := hu
    refine ⟨_, rfl, wpAny_letOwnedTupleGo_enum (s := { s with heap := h', toks := tk + 1 }) ho fun h'' he' sb => ?_⟩
    have hT2 : h''.get? s.heap.objs.size = some { cls := .type "tuple", data := .seq #[.int i tk, .str ⟨#[c]⟩ t'] } := (sb.2 _ (Nat.ne_of_gt hel)).trans hT
    have new : ObjOk X.prog X.w (upd H s.heap.objs.size (.tup [.int (i : Nat), .str ⟨#[c]⟩])) h'' s.heap.objs.size (.tup [.int (i : Nat), .str ⟨#[c]⟩]) :=
      ⟨by show 2 ≤ sizeLine; decide, [.int i tk, .str ⟨#[c]⟩ t'], .cons ⟨_, rfl⟩ (.cons ⟨_, rfl⟩ .nil), ⟨_, hT2, rfl, _, rfl⟩⟩
    have I1 : Inv X pins σ (upd H s.heap.objs.size (.tup [.int (i : Nat), .str ⟨#[c]⟩])) { s with heap := h'', toks := tk + 1 } :=
      I.turnedNew (ch := [e, it]) (fun b ob hb q => (sb.2 b (fun z => hb (by simp [z]))).trans (hk b ob (fun z => hb (by simp [z])) (fun z => hb (by simp [z])) q)) hf (Nat.le_refl _) new
    refine ⟨.ref s.heap.objs.size, _, I1, rfl, ⟨_, c, rfl, I.hok.fresh (Nat.le_refl _), rfl, hcx⟩, ⟨⟨.str ⟨#[c]⟩ t', ?_⟩, ?_, hne⟩, fun b hb => ?_⟩
    · have e1 : ((i + 1 : Nat) : Int) = (i : Int) + 1 := by omega
      rw [e1]; exact he'
    · obtain ⟨o, q1, q2⟩ := hit'
      exact ⟨o, (sb.2 it (Ne.symm hne)).trans q1, q2⟩
    · have hb' : b < s.heap.objs.size := by
        have e' : b = e ∨ b = it := by simpa using hb
        rcases e' with z | z
        · rw [z]; exact hel
        · rw [z]; exact hil
      rw [upd_ne (Nat.ne_of_lt hb')]
      exact (hf b hb).1
  done := by
    intro X hP hw hK hc i pins s σ H E I hf st hg
    subst hP hw hK
    obtain ⟨⟨old, he⟩, hit, hne⟩ := st
    obtain ⟨f0, f1, f2, f3, f4, f5⟩ := hf it (by simp)
    have hi : i = x.cps.size := hg
    subst hi
    exact wpAny_pyNext_enum_endD (draws_str (A := X.A.in1) (I.ok.hd hc) it x t) he hit fun h' eb => ⟨rfl, I.turned (t' := s.toks) (fun b o hb q => eb b o hb q) f0 f1 f3 f4 f5⟩
  self := fun A i s Q E st h => let ⟨⟨_, he⟩, _⟩ := st; wpAny_pyIter_enum he h

def iEnumS (ta : TA) : TI := fun σ H R => ta σ H fun vs H1 => ∃ x : Str, vs = [.str x] ∧ R (Ites x) H1
theorem pi_enumS {X : Cx} {e : Expr} {ta : TA} {p pos tpos : Pos} {elts : List Expr} {kk : Nat} (hg : Gl X "enumerate") (hm : X.mg "enumerate" = none) (ha : PA X [e] ta) (hs : starEach [e] X.env = [(false, eval e X.env)] := by rfl) :
    PI X (.Tuple elts kk tpos) (.Call (.Name "enumerate" p) [e] [] pos) (iEnumS ta) := by
  refine ⟨fun pins s σ H R I h => ?_⟩
  refine Call_ (ld_blt I hg hm boot_enumerate (PyProof.Rows.callWith_type1 (thn (ha.run pos pins s σ H _ I h) fun us s1 ⟨vs, H1, I1, r1, q1⟩ => ?_) hs rfl))
  obtain ⟨x, ex, q⟩ := q1
  subst ex
  cases r1 with
  | cons r rr =>
    cases rr
    obtain ⟨t, rfl⟩ := r
    refine call_enumerate_str fun h' he hit hsz hk => wpAny_pyIter_enum he ?_
    have I2 : Inv X pins σ H1 { s1 with heap := h' } := I1.kept (t' := s1.toks) hk
    refine ⟨s1.heap.objs.size + 1, [s1.heap.objs.size + 1, s1.heap.objs.size], _, _, H1, rfl, I2, turn_enumS (s1.heap.objs.size + 1) s1.heap.objs.size x t, ⟨⟨.none, he⟩, hit, Nat.succ_ne_self _⟩, fun b hb => ?_, q⟩
    have e' : b = s1.heap.objs.size + 1 ∨ b = s1.heap.objs.size := by simpa using hb
    have hle : s1.heap.objs.size ≤ b := by
      rcases e' with z | z
      · rw [z]; exact Nat.le_add_right _ _
      · rw [z]; exact Nat.le_refl _
    exact I1.fpOk hle (I1.hok.fresh hle)
/-- its walk: pairs of the place and the sign -/
theorem walk_enumS {u : Wd} : Walk (Ites (S u)) u.length (fun _ => True) (fun i H v H' => ∃ T c, v = .ref T ∧ H T = none ∧ H' = upd H T (.tup [.int (i : Nat), vS [c]]) ∧ u[i]? = some c) := by
  have hn : (S u).cps.size = u.length := by simp [S]
  refine ⟨fun i H hi _ => ?_, fun H _ => ?_, fun i H x H' hi _ y => ?_⟩
  · show i < (S u).cps.size
    rw [hn]; exact hi
  · show u.length = (S u).cps.size
    rw [hn]
  · obtain ⟨T, c, h1, h2, h3, h4⟩ := y
    exact ⟨T, c, h1, h2, h3, by simpa [S] using h4⟩
/-! ### isinstance with one built-in class -/
def rIsi1 (K : PySem.W.Frag) (n : String) : List V → Hp → VK → Prop := fun xs H Q => ∃ (x : V) (m : String) (b : Bool), xs = [x, .ty n] ∧ TyX K H x (.type m) ∧ kitB m n = some b ∧ Q (.bl b) H
theorem call_isi1 {X : Cx} (n : String) : CallR X (.builtin "isinstance") (rIsi1 X.K n) := by
  intro pins s σ H xs us Q I r h
  obtain ⟨x, m, b, rfl, ty, e, q⟩ := h
  exact call_isi pins s σ H _ us Q I r ⟨x, .ty n, _, _, b, rfl, .ty n, ty, kit_ty e, q⟩
section
variable {X : Cx} {a : Expr} {ta : TE} {ty : Str} {n : String} {p p2 pos : Pos}
theorem pe_isi (hg : Gl X "isinstance") (hm : X.mg "isinstance" = none) (hg2 : Gl X ty) (hm2 : X.mg ty = none) (hv : bootBuiltins ty = some (.type n)) (ha : PE X a ta) (hn2 : ty ≠ "__name__" := by decide) (hdb2 : (ty == ("__debug__" : Str)) = false := by decide)
    (he2 : starEach [Expr.Name ty p2] X.env = (false, eval (.Name ty p2) X.env) :: starEach [] X.env := by rfl)
    (he : starEach [a, Expr.Name ty p2] X.env = (false, eval a X.env) :: starEach [Expr.Name ty p2] X.env := by rfl) (hpl : (backTo pos (starEach [Expr.Name ty p2] X.env)).any (·.1) = false := by rfl) :
    PE X (.Call (.Name "isinstance" p) [a, .Name ty p2] [] pos) (tCB (rIsi1 X.K n) (tCons ta (tCons (tC (.ty n)) tNil))) :=
  pe_callB (p := p) (pos := pos) (call_isi1 n) hg hm (by decide +kernel) (pa_cons ha (pa_cons (pe_bltn (v := .ty n) (pos := p2) hg2 hm2 hv rfl hn2 hdb2) pa_nil he2) he) (by decide) (by decide) he hpl
end
theorem boot_strT : bootBuiltins "str" = some (.type "str") := by decide +kernel
theorem boot_listT : bootBuiltins "list" = some (.type "list") := by decide +kernel
theorem boot_tupleT : bootBuiltins "tuple" = some (.type "tuple") := by decide +kernel
theorem boot_intT : bootBuiltins "int" = some (.type "int") := by decide +kernel
theorem boot_boolT : bootBuiltins "bool" = some (.type "bool") := by decide +kernel
theorem boot_maxB : bootBuiltins "max" = some (.builtin "max") := by decide +kernel
theorem boot_minB : bootBuiltins "min" = some (.builtin "min") := by decide +kernel

/-! ### within a comprehension's block: the written part named -/
section
variable {X : Cx} {K : PySem.W.Frag}
theorem op_eqDK (hu : X.A.units + 64 < cLine) (hK : X.K = K := by rfl) : OpR X (compareOp .Eq) (rEqD K) := by
  subst hK; exact op_eqD hu
theorem op_notIn_seqK (hK : X.K = K := by rfl) : OpR X (compareOp .NotIn) (rIn K true) := by
  subst hK; exact op_notIn_seq
theorem ix_listK (hK : X.K = K := by rfl) : IxR X (rIxL K) := by
  subst hK; exact ix_list
theorem pg_tupK {es : List Expr} {k : Nat} {t : TGs} {n : Nat} {pos : Pos} (hc : X.calm = true) (h : PGs X es t) (hK : X.K = K := by rfl)
    (hn : (assignEach es X.env).length = n := by rfl) (hst : (assignEach es X.env).findIdx? (·.1) = none := by rfl) : PG X (.Tuple es k pos) (gTup K n t) := by
  subst hK; exact pg_tup hc h hn hst
end

/-! ### a statement whose test fails: its suite is never run -/
def tIfF (tc : TT) : TS := fun D σ H => tc σ H fun b H1 => b = false ∧ D.nx σ H1
theorem ps_ifF {X : Cx} {c : Expr} {a : List Stmt} {tc : TT} {pos : Pos} (hc : PT X c tc) : PS X (.If c a [] pos) (tIfF tc) := by
  refine ⟨fun pins s σ H D I h => ?_⟩
  refine wpAny_If (thn (hc.run pins s σ H _ I h) fun d s1 ⟨H1, I1, e, q1⟩ => ?_)
  subst e
  exact wpAny_execs_nil ⟨σ, H1, I1, q1⟩

/-! ### a def that is called by its name, a method, a class -/
structure DefC (P : Program) (w : World) (K : PySem.W.Frag) (mg : Str → Option Value) (base : Heap) (k : Nat) (x : Str) (sp : Sp) : Prop where
  ex : ∃ (f : Addr) (fd : FuncData) (ps : List Str), FnOk P w K mg base CX0 k f fd ps sp ∧ mg x = some (.ref f) ∧ PySem.W.keepIn K (.ref f) = true ∧ Binds K fd ps []
structure MetC (P : Program) (w : World) (K : PySem.W.Frag) (mg : Str → Option Value) (base : Heap) (k : Nat) (C : Addr) (m : Str) (sp : Sp) : Prop where
  ex : ∃ (f : Addr) (fd : FuncData) (ps : List Str), Cls K C ∧ Meth K C m f ∧ FnOk P w K mg base CX0 k f fd ps sp ∧ Binds K fd ps []
structure MakC (P : Program) (w : World) (K : PySem.W.Frag) (mg : Str → Option Value) (base : Heap) (k : Nat) (x : Str) (C : Addr) (sp : Sp) : Prop where
  ex : ∃ (f : Addr) (fd : FuncData) (ps : List Str), Mk K C f ∧ FnOk P w K mg base CX0 k f fd ps sp ∧ mg x = some (.ref C) ∧ Binds K fd ps []
section
variable {X : Cx} {k j : Nat} {C : Addr} {x m : Str} {sp : Sp} {p pos apos : Pos} {e o : Expr} {es : List Expr} {ta : TE} {t : TA}
theorem pcl (c : DefC X.prog X.w X.K X.mg X.base k x sp) (hr : Room j X.A) (hk : k ≤ j) (hg : Gl X x) (ha : PA X (e :: es) t)
    (hdb : (x == ("__debug__" : Str)) = false := by decide) (he : starEach (e :: es) X.env = (false, eval e X.env) :: starEach es X.env := by rfl) (hpl : (backTo pos (starEach es X.env)).any (·.1) = false := by rfl) :
    PE X (.Call (.Name x p) (e :: es) [] pos) (tCall sp [] E0 t) := by
  obtain ⟨f, fd, ps, F, hm, kp, b⟩ := c.ex
  exact pe_call F (hr.mono hk) hg hm kp b .nil pass0 ha hdb he hpl
theorem pmk (c : MakC X.prog X.w X.K X.mg X.base k x C sp) (hr : Room j X.A) (hk : k + 1 ≤ j) (hg : Gl X x) (ha : PA X (e :: es) t)
    (hdb : (x == ("__debug__" : Str)) = false := by decide) (he : starEach (e :: es) X.env = (false, eval e X.env) :: starEach es X.env := by rfl) (hpl : (backTo pos (starEach es X.env)).any (·.1) = false := by rfl) :
    PE X (.Call (.Name x p) (e :: es) [] pos) (tMake C sp [] E0 t) := by
  obtain ⟨f, fd, ps, M, F, hm, b⟩ := c.ex
  exact pe_make M F (hr.mono hk) hg hm b .nil pass0 ha hdb he hpl
theorem pmt {pl : Sem Bool} (c : MetC X.prog X.w X.K X.mg X.base k C m sp) (hr : Room j X.A) (hk : k ≤ j) (he : PE X o ta) (ha : PA X (e :: es) t)
    (hst : starEach (e :: es) X.env = (false, eval e X.env) :: starEach es X.env := by rfl) (hpl : (backTo pos (starEach es X.env)).any (·.1) = false := by rfl)
    (ht : eval (.Call (.Attribute o m apos) (e :: es) [] pos) X.env = (do
      let ov ← eval o X.env
      standAt apos.atName
      let (f, first) ← holding [ov] (getMethod ov m pl)
      callWith pos f first (backTo pos (starEach (e :: es) X.env)) (backToKw pos (keywordEach [] X.env))) := by rfl) :
    PE X (.Call (.Attribute o m apos) (e :: es) [] pos) (tMeth C m sp [] E0 ta t) := by
  obtain ⟨f, fd, ps, hc, hm, F, b⟩ := c.ex
  exact pe_meth (pl := pl) he hc hm F (hr.mono hk) b .nil pass0 ha hst hpl ht
theorem pmt0 {pl : Sem Bool} (c : MetC X.prog X.w X.K X.mg X.base k C m sp) (hr : Room j X.A) (hk : k ≤ j) (he : PE X o ta)
    (ht : eval (.Call (.Attribute o m apos) [] [] pos) X.env = (do
      let ov ← eval o X.env
      standAt apos.atName
      let (f, first) ← holding [ov] (getMethod ov m pl)
      callWith pos f first (backTo pos (starEach [] X.env)) (backToKw pos (keywordEach [] X.env))) := by rfl) :
    PE X (.Call (.Attribute o m apos) [] [] pos) (tMeth C m sp [] E0 ta tNil) := by
  obtain ⟨f, fd, ps, hc, hm, F, b⟩ := c.ex
  exact pe_meth0 (pl := pl) he hc hm F (hr.mono hk) b .nil pass0 ht
end
end JR
namespace JR
open PySem PySem.Spec PyProof.Rows L2 SX

/-! ### the text by places -/
def top (i : Nat) : Stmt := PySem.Challenge.pw_joinranks_k97_whole_rows_made_by_neighbo.main.body.getD i (.Pass ⟨0, 0, 0, 0⟩)
def signsText : Str := " !\"#$&'()*+,-./0123456789:;<=>?@ABCDEFGHIJKLMNOPQRSTUVWXYZ[\\]^_`abcdefghijklmnopqrstuvwxyz{|}~"

/-- what the walk asks of the text's top -/
structure Txt (K : PySem.W.Frag) (mg : Str → Option Value) (CT CF : Addr) : Prop where
  clT : Cls K CT
  clF : Cls K CF
  nT : NoAttr K CT "kept_signs" ∧ NoAttr K CT "by_text" ∧ NoAttr K CT "by_pair" ∧ NoAttr K CT "kept_rows" ∧ NoAttr K CT "kept_pieces"
  nF : NoAttr K CF "kept_table" ∧ NoAttr K CF "kept_alone" ∧ NoAttr K CF "kept_truths"
  enumerate : mg "enumerate" = none
  isinstance : mg "isinstance" = none
  len : mg "len" = none
  list : mg "list" = none
  max : mg "max" = none
  min : mg "min" = none
  range : mg "range" = none
  str : mg "str" = none
  int : mg "int" = none
  bool : mg "bool" = none
  tuple : mg "tuple" = none
  SIGNS : ∃ u, mg "SIGNS" = some u ∧ RelV (.str signsText) u
  MOST_SIGNS : ∃ u, mg "MOST_SIGNS" = some u ∧ RelV (.int 12) u
  MOST_ROWS : ∃ u, mg "MOST_ROWS" = some u ∧ RelV (.int 24) u
  MOST_LENGTH : ∃ u, mg "MOST_LENGTH" = some u ∧ RelV (.int 16) u
/-- a def of the text under its name; a method -/
structure Here (K : PySem.W.Frag) (mg : Str → Option Value) (x : Str) (st : Stmt) : Prop where
  ex : ∃ (f : Addr) (fd : FuncData), Fun K x x st f fd ∧ mg x = some (.ref f)
structure HereM (K : PySem.W.Frag) (C : Addr) (m q : Str) (st : Stmt) : Prop where
  ex : ∃ (f : Addr) (fd : FuncData), Fun K m q st f fd ∧ Cls K C ∧ Meth K C m f
structure HereI (K : PySem.W.Frag) (mg : Str → Option Value) (x : Str) (C : Addr) (q : Str) (st : Stmt) : Prop where
  ex : ∃ (f : Addr) (fd : FuncData), Fun K "__init__" q st f fd ∧ Mk K C f ∧ mg x = some (.ref C)
section
variable {P : Program} {w : World} {K : PySem.W.Frag} {mg : Str → Option Value} {base : Heap} {N ps : List Str} {k : Nat} {sp : Sp} {x m q : Str} {st : Stmt} {C : Addr}
theorem def_of (h : Here K mg x st) (S : FnScope N ps (defScope st))
    (hb : ∀ (kV doc pm : Value) (an : Option Addr) (cdv ct : Value) (us : List Value), us.length = ps.length → bindArgs (PySem.W.fnOf x x (defArgs st) (defBody st) (defScope st) .none kV doc pm an cdv ct) ⟨us, []⟩ = pure (ps.zip us))
    (len : ∀ vs H Q E, sp vs H Q E → vs.length = ps.length)
    (body : ∀ (f : Addr) (cdv : Value) (A : Around) (outer : List Env) (s : Shared) (H : Hp) (vs : List V) (Q : VK) (E : XK), Room k (A.deeper (envOfC x (defScope st) s.heap.objs.size f cdv)) → sp vs H Q E →
      ∃ t, PSs (cxOf CX0 P w K mg base N x (defScope st) f cdv A outer s H E).nox (defBody st) t ∧ t { nx := fun _ H' => Q .non H', rt := Q } (start N vs) H) : DefC P w K mg base (k + 1) x sp := by
  obtain ⟨f, fd, F, hm⟩ := h.ex
  exact ⟨f, fd, ps, F.ok S len (body f), hm, F.kp, F.binds hb⟩
theorem fn_of {f : Addr} {fd : FuncData} (F : Fun K x x st f fd) (S : FnScope N ps (defScope st))
    (len : ∀ vs H Q E, sp vs H Q E → vs.length = ps.length)
    (body : ∀ (cdv : Value) (A : Around) (outer : List Env) (s : Shared) (H : Hp) (vs : List V) (Q : VK) (E : XK), Room k (A.deeper (envOfC x (defScope st) s.heap.objs.size f cdv)) → sp vs H Q E →
      ∃ t, PSs (cxOf CX0 P w K mg base N x (defScope st) f cdv A outer s H E).nox (defBody st) t ∧ t { nx := fun _ H' => Q .non H', rt := Q } (start N vs) H) : FnOk P w K mg base CX0 (k + 1) f fd ps sp := F.ok S len body
theorem met_of (h : HereM K C m q st) (S : FnScope N ps (defScope st))
    (hb : ∀ (kV doc pm : Value) (an : Option Addr) (cdv ct : Value) (us : List Value), us.length = ps.length → bindArgs (PySem.W.fnOf m q (defArgs st) (defBody st) (defScope st) .none kV doc pm an cdv ct) ⟨us, []⟩ = pure (ps.zip us))
    (len : ∀ vs H Q E, sp vs H Q E → vs.length = ps.length)
    (body : ∀ (f : Addr) (cdv : Value) (A : Around) (outer : List Env) (s : Shared) (H : Hp) (vs : List V) (Q : VK) (E : XK), Room k (A.deeper (envOfC q (defScope st) s.heap.objs.size f cdv)) → sp vs H Q E →
      ∃ t, PSs (cxOf CX0 P w K mg base N q (defScope st) f cdv A outer s H E).nox (defBody st) t ∧ t { nx := fun _ H' => Q .non H', rt := Q } (start N vs) H) : MetC P w K mg base (k + 1) C m sp := by
  obtain ⟨f, fd, F, hc, hm⟩ := h.ex
  exact ⟨f, fd, ps, hc, hm, F.ok S len (body f), F.binds hb⟩
theorem mak_of (h : HereI K mg x C q st) (S : FnScope N ps (defScope st))
    (hb : ∀ (kV doc pm : Value) (an : Option Addr) (cdv ct : Value) (us : List Value), us.length = ps.length → bindArgs (PySem.W.fnOf "__init__" q (defArgs st) (defBody st) (defScope st) .none kV doc pm an cdv ct) ⟨us, []⟩ = pure (ps.zip us))
    (len : ∀ vs H Q E, sp vs H Q E → vs.length = ps.length)
    (body : ∀ (f : Addr) (cdv : Value) (A : Around) (outer : List Env) (s : Shared) (H : Hp) (vs : List V) (Q : VK) (E : XK), Room k (A.deeper (envOfC q (defScope st) s.heap.objs.size f cdv)) → sp vs H Q E →
      ∃ t, PSs (cxOf CX0 P w K mg base N q (defScope st) f cdv A outer s H E).nox (defBody st) t ∧ t { nx := fun _ H' => Q .non H', rt := Q } (start N vs) H) : MakC P w K mg base (k + 1) x C sp := by
  obtain ⟨f, fd, F, hm, hx⟩ := h.ex
  exact ⟨f, fd, ps, hm, F.ok S len (body f), hx, F.binds hb⟩
end
end JR
namespace JR
open PySem PySem.Spec PyProof.Rows L2 SX

/-! ### texts -/
theorem vS_inj {p q : Wd} (h : vS p = vS q) : p = q := S_inj (V.str.inj h)
theorem vS_iff {p q : Wd} : decide (vS p = vS q) = decide (p = q) := by
  by_cases h : p = q
  · rw [decide_eq_true h, decide_eq_true (congrArg vS h)]
  · rw [decide_eq_false h, decide_eq_false fun e => h (vS_inj e)]
theorem map_vS_inj : ∀ {a b : Rw}, a.map vS = b.map vS → a = b
  | [], [], _ => rfl
  | [], _ :: _, h => by simp at h
  | _ :: _, [], h => by simp at h
  | x :: a, y :: b, h => by
    obtain ⟨h1, h2⟩ : vS x = vS y ∧ a.map vS = b.map vS := by simpa using h
    rw [vS_inj h1, map_vS_inj h2]
theorem keyS_inj {p q : Wd} (h : (Sum.inr (S p) : Key) = Sum.inr (S q)) : p = q := S_inj (Sum.inr.inj h)
theorem get_vS {row : Rw} {i : Nat} {x : V} (h : (row.map vS)[i]? = some x) : ∃ p, row[i]? = some p ∧ x = vS p := by
  rw [List.getElem?_map] at h
  cases e : row[i]? with
  | none => rw [e] at h; cases h
  | some p => rw [e] at h; exact ⟨p, rfl, (Option.some.inj h).symm⟩
theorem small {n : Nat} (h : n ≤ 100000) : n ≤ sizeLine := Nat.le_trans h (by decide)
theorem smallLt {n : Nat} (h : n < 100000) : n < sizeLine := Nat.lt_of_lt_of_le h (by decide)
theorem len_S (p : Wd) : (S p).length = p.length := S_len p

/-! ### slices -/
theorem cutS_mid (u : Wd) (a b : Nat) : cutS (S u) (some (a : Int)) (some (b : Int)) = S ((u.drop a).take (b - a)) := by
  unfold cutS
  rw [len_S, HT.sIx_nat, HT.sIx_nat]
  show S ((u.drop (min a u.length)).take (min b u.length - min a u.length)) = _
  congr 1
  by_cases h : a ≤ u.length
  · rw [Nat.min_eq_left h]
    by_cases h2 : b ≤ u.length
    · rw [Nat.min_eq_left h2]
    · rw [Nat.min_eq_right (by omega)]
      rw [List.take_of_length_le (by rw [List.length_drop]; omega), List.take_of_length_le (by rw [List.length_drop]; omega)]
  · rw [Nat.min_eq_right (by omega : u.length ≤ a), List.drop_eq_nil_of_le (Nat.le_refl _), List.drop_eq_nil_of_le (by omega : u.length ≤ a)]
    simp
theorem cutS_to (u : Wd) (b : Nat) : cutS (S u) none (some (b : Int)) = S (u.take b) := by
  unfold cutS
  rw [len_S, HT.sIx_nat]
  show S ((u.drop 0).take (min b u.length - 0)) = _
  congr 1
  rw [List.drop_zero, Nat.sub_zero]
  by_cases h2 : b ≤ u.length
  · rw [Nat.min_eq_left h2]
  · rw [Nat.min_eq_right (by omega), List.take_of_length_le (Nat.le_refl _), List.take_of_length_le (by omega)]
theorem cutS_from (u : Wd) (a : Nat) : cutS (S u) (some (a : Int)) none = S (u.drop a) := by
  unfold cutS
  rw [len_S, HT.sIx_nat]
  show S ((u.drop (min a u.length)).take (u.length - min a u.length)) = _
  congr 1
  rw [List.take_of_length_le (by rw [List.length_drop]; omega)]
  by_cases h : a ≤ u.length
  · rw [Nat.min_eq_left h]
  · rw [Nat.min_eq_right (by omega : u.length ≤ a), List.drop_eq_nil_of_le (Nat.le_refl _), List.drop_eq_nil_of_le (by omega : u.length ≤ a)]
theorem cutV_from (xs : List V) (a : Nat) : cutV xs (some (a : Int)) none = xs.drop a := by
  unfold cutV
  rw [HT.sIx_nat]
  show (xs.drop (min a xs.length)).take (xs.length - min a xs.length) = _
  rw [List.take_of_length_le (by rw [List.length_drop]; omega)]
  by_cases h : a ≤ xs.length
  · rw [Nat.min_eq_left h]
  · rw [Nat.min_eq_right (by omega : xs.length ≤ a), List.drop_eq_nil_of_le (Nat.le_refl _), List.drop_eq_nil_of_le (by omega : xs.length ≤ a)]
theorem cutV_to (xs : List V) (b : Nat) : cutV xs none (some (b : Int)) = xs.take b := by
  unfold cutV
  rw [HT.sIx_nat]
  show (xs.drop 0).take (min b xs.length - 0) = _
  rw [List.drop_zero, Nat.sub_zero]
  by_cases h2 : b ≤ xs.length
  · rw [Nat.min_eq_left h2]
  · rw [Nat.min_eq_right (by omega), List.take_of_length_le (Nat.le_refl _), List.take_of_length_le (by omega)]
theorem cutV_mid (xs : List V) (a b : Nat) : cutV xs (some (a : Int)) (some (b : Int)) = (xs.drop a).take (b - a) := by
  unfold cutV
  rw [HT.sIx_nat, HT.sIx_nat]
  by_cases h : a ≤ xs.length
  · rw [Nat.min_eq_left h]
    by_cases h2 : b ≤ xs.length
    · rw [Nat.min_eq_left h2]
    · rw [Nat.min_eq_right (by omega)]
      rw [List.take_of_length_le (by rw [List.length_drop]; omega), List.take_of_length_le (by rw [List.length_drop]; omega)]
  · rw [Nat.min_eq_right (by omega : xs.length ≤ a), List.drop_eq_nil_of_le (Nat.le_refl _), List.drop_eq_nil_of_le (by omega : xs.length ≤ a)]
    simp
theorem nodup_take_no {α : Type} {u : List α} (h : u.Nodup) {i : Nat} {c : α} (hc : u[i]? = some c) : c ∉ u.take i := fun hm => by
  obtain ⟨j, hj⟩ := List.mem_iff_getElem?.mp hm
  have hl := (List.getElem?_eq_some_iff.mp hj).1
  rw [List.length_take] at hl
  rw [List.getElem?_take_of_lt (by omega)] at hj
  obtain ⟨hi, e1⟩ := List.getElem?_eq_some_iff.mp hc
  obtain ⟨hj', e2⟩ := List.getElem?_eq_some_iff.mp hj
  have := List.pairwise_iff_getElem.mp h j i hj' hi (by omega)
  exact this (e2.trans e1.symm)

/-! ### heaps -/
/-- all but what stands at d is as it was -/
def But (d : Addr) (H H' : Hp) : Prop := ∀ b o, b ≠ d → H b = some o → H' b = some o
theorem But.refl (d : Addr) (H : Hp) : But d H H := fun _ _ _ h => h
theorem But.trans {d : Addr} {H H1 H2 : Hp} (a : But d H H1) (b : But d H1 H2) : But d H H2 := fun c o n h => b c o n (a c o n h)
theorem _root_.L2.Same.but {H H' : Hp} (e : Same H H') (d : Addr) : But d H H' := fun b o _ h => e b o h
theorem same_new {H : Hp} {p : Addr} {o : HO} (h : H p = none) : Same H (upd H p o) := fun a u e => by
  rw [upd_ne (ne_of_none e h)]; exact e
theorem but_upd {H : Hp} {d : Addr} {o : HO} : But d H (upd H d o) := fun a u n e => by rw [upd_ne n]; exact e
/-- a new object may change -/
theorem _root_.L2.Same.mut {H H' : Hp} {p : Addr} {o : HO} (e : Same H H') (h : H p = none) : Same H (upd H' p o) := fun a u ha => by
  rw [upd_ne (ne_of_none ha h)]; exact e a u ha
theorem But.mut {d : Addr} {H H' : Hp} {p : Addr} {o : HO} (e : But d H H') (h : H p = none) : But d H (upd H' p o) := fun a u n ha => by
  rw [upd_ne (ne_of_none ha h)]; exact e a u n ha
theorem fresh_ne {H : Hp} {a p : Addr} {o : HO} (e : H a = some o) (h : H p = none) : a ≠ p := ne_of_none e h

/-! ### lists of rows -/
def RowsAt (H : Hp) (a : Addr) (rows : List (Wd × Wd)) : Prop := ∃ qs : List Addr, H a = some (.lst (qs.map V.ref)) ∧ Paired (fun q r => H q = some (.tup [vS r.1, vS r.2])) qs rows
theorem RowsAt.same {H H' : Hp} {a : Addr} {rows : List (Wd × Wd)} (h : RowsAt H a rows) (e : Same H H') : RowsAt H' a rows := by
  obtain ⟨qs, h1, h2⟩ := h
  exact ⟨qs, e _ _ h1, Paired.mapP h2 fun _ _ z => e _ _ z⟩
theorem RowsAt.but {d : Addr} {H H' : Hp} {a : Addr} {rows : List (Wd × Wd)} {o : HO} (h : RowsAt H a rows) (e : But d H H') (hd : H d = some o) (h1 : ∀ xs, o ≠ .tup xs) (h2 : a ≠ d) : RowsAt H' a rows := by
  obtain ⟨qs, h3, h4⟩ := h
  exact ⟨qs, e _ _ h2 h3, Paired.mapP h4 fun _ _ z => e _ _ (ne_of z hd fun w => h1 _ w.symm) z⟩
theorem pair_get {α β : Type} {F : α → β → Prop} : ∀ {as : List α} {bs : List β} {i : Nat} {b : β}, Paired F as bs → bs[i]? = some b → ∃ a, as[i]? = some a ∧ F a b
  | _, _, _, _, .nil, h => by simp at h
  | _, _, 0, b, .cons r _, h => by
    have e := Option.some.inj (by simpa using h : some _ = some b)
    subst e
    exact ⟨_, rfl, r⟩
  | _, _, i + 1, b, .cons _ t, h => by
    obtain ⟨a, h1, h2⟩ := pair_get (i := i) t (by simpa using h)
    exact ⟨a, by simpa using h1, h2⟩
theorem pair_get' {α β : Type} {F : α → β → Prop} : ∀ {as : List α} {bs : List β} {i : Nat} {a : α}, Paired F as bs → as[i]? = some a → ∃ b, bs[i]? = some b ∧ F a b
  | _, _, _, _, .nil, h => by simp at h
  | _, _, 0, b, .cons r _, h => by
    have e := Option.some.inj (by simpa using h : some _ = some b)
    subst e
    exact ⟨_, rfl, r⟩
  | _, _, i + 1, b, .cons _ t, h => by
    obtain ⟨a, h1, h2⟩ := pair_get' (i := i) t (by simpa using h)
    exact ⟨a, by simpa using h1, h2⟩
theorem RowsAt.len {H : Hp} {a : Addr} {rows : List (Wd × Wd)} {qs : List Addr} (h : Paired (fun q (r : Wd × Wd) => H q = some (.tup [vS r.1, vS r.2])) qs rows) : qs.length = rows.length := Paired.length h

/-! ### dicts with text keys: a value for each piece -/
def dOf (f : Wd → V) (ps : Rw) : List (Key × V) := ps.map fun p => (Sum.inr (S p), f p)
theorem val_dOf (f : Wd → V) (p : Wd) : ∀ ps : Rw, valV (dOf f ps) (Sum.inr (S p) : Key) = if p ∈ ps then some (f p) else none
  | [] => rfl
  | q :: r => by
    show valV ((Sum.inr (S q), f q) :: dOf f r) _ = _
    by_cases h : q = p
    · subst h
      rw [valV_pos rfl, if_pos List.mem_cons_self]
    · rw [valV_neg (fun e => h (keyS_inj e)), val_dOf f p r]
      by_cases h2 : p ∈ r
      · rw [if_pos h2, if_pos (List.mem_cons_of_mem _ h2)]
      · rw [if_neg h2, if_neg fun z => (List.mem_cons.mp z).elim (fun e => h e.symm) h2]
theorem dOf_put {f : Wd → V} {ps : Rw} {p : Wd} (h : p ∉ ps) : putK (dOf f ps) (Sum.inr (S p) : Key) (f p) = dOf f (ps ++ [p]) := by
  rw [putK_new _ (by rw [val_dOf, if_neg h])]
  unfold dOf; rw [List.map_append]; rfl
theorem valV_mem {κ : Type} [DecidableEq κ] {k : κ} {v : V} : ∀ {kvs : List (κ × V)}, valV kvs k = some v → (k, v) ∈ kvs
  | [], h => by cases h
  | (k', v') :: r, h => by
    by_cases e : k' = k
    · subst e
      rw [valV_pos rfl] at h
      have := Option.some.inj h
      rw [← this]; exact List.mem_cons_self
    · rw [valV_neg e] at h
      exact List.mem_cons_of_mem _ (valV_mem h)
theorem valV_not {κ : Type} [DecidableEq κ] {k : κ} : ∀ {kvs : List (κ × V)}, valV kvs k = none → k ∉ kvs.map (·.1)
  | [], _, h => by simp at h
  | (k', v') :: r, h, hm => by
    by_cases e : k' = k
    · subst e
      rw [valV_pos rfl] at h; cases h
    · rw [valV_neg e] at h
      rcases List.mem_cons.mp hm with z | z
      · exact e z.symm
      · exact valV_not h z
def byTF : Nat → Rw → List (Key × V)
  | _, [] => []
  | n, p :: r => (Sum.inr (S p), .int (n : Nat)) :: byTF (n + 1) r
/-- the number of each piece -/
def byT (ps : Rw) : List (Key × V) := byTF 0 ps
theorem val_byTF (p : Wd) : ∀ (ps : Rw) (n : Nat), valV (byTF n ps) (Sum.inr (S p) : Key) = if p ∈ ps then some (.int ((n + ps.idxOf p : Nat) : Int)) else none
  | [], n => rfl
  | q :: r, n => by
    show valV ((Sum.inr (S q), V.int (n : Nat)) :: byTF (n + 1) r) _ = _
    by_cases h : q = p
    · subst h
      rw [valV_pos rfl, if_pos List.mem_cons_self]
      simp
    · rw [valV_neg (fun e => h (keyS_inj e)), val_byTF p r (n + 1)]
      by_cases h2 : p ∈ r
      · rw [if_pos h2, if_pos (List.mem_cons_of_mem _ h2), List.idxOf_cons]
        have : (q == p) = false := beq_eq_false_iff_ne.mpr h
        simp only [this, cond_false]
        congr 3
        omega
      · rw [if_neg h2, if_neg fun z => (List.mem_cons.mp z).elim (fun e => h e.symm) h2]
theorem val_byT (p : Wd) (ps : Rw) : valV (byT ps) (Sum.inr (S p) : Key) = if p ∈ ps then some (.int (ps.idxOf p : Nat)) else none := by
  unfold byT; rw [val_byTF]; simp
theorem byTF_snoc (p : Wd) : ∀ (ps : Rw) (n : Nat), byTF n (ps ++ [p]) = byTF n ps ++ [(Sum.inr (S p), .int ((n + ps.length : Nat) : Int))]
  | [], n => rfl
  | q :: r, n => by
    show _ :: byTF (n + 1) (r ++ [p]) = _ :: (byTF (n + 1) r ++ _)
    rw [byTF_snoc p r (n + 1)]
    simp only [List.length_cons]
    congr 6
    omega
theorem byT_put {ps : Rw} {p : Wd} (h : p ∉ ps) : putK (byT ps) (Sum.inr (S p) : Key) (.int (ps.length : Nat)) = byT (ps ++ [p]) := by
  rw [putK_new _ (by rw [val_byT, if_neg h])]
  unfold byT; rw [byTF_snoc]; simp
theorem len_byTF : ∀ (ps : Rw) (n : Nat), (byTF n ps).length = ps.length
  | [], _ => rfl
  | _ :: r, n => congrArg (· + 1) (len_byTF r (n + 1))
theorem len_byT (ps : Rw) : (byT ps).length = ps.length := len_byTF ps 0
theorem keys_byTF : ∀ (ps : Rw) (n : Nat), (byTF n ps).map (fun kv => kV kv.1) = ps.map vS
  | [], _ => rfl
  | p :: r, n => congrArg (vS p :: ·) (keys_byTF r (n + 1))
/-! ### the dict of rows: keys are pairs of texts -/
def kP (x y : Wd) : List Key := [Sum.inr (S x), Sum.inr (S y)]
theorem kP_inj {x y x' y' : Wd} (h : kP x y = kP x' y') : x = x' ∧ y = y' := by
  unfold kP at h
  simp only [List.cons.injEq, and_true] at h
  exact ⟨keyS_inj h.1, keyS_inj h.2⟩
theorem kP_map (x y : Wd) : (kP x y).map kV = [vS x, vS y] := rfl
def byPF : Nat → List (Wd × Wd) → List (List Key × V)
  | _, [] => []
  | n, p :: r => (kP p.1 p.2, .int (n : Nat)) :: byPF (n + 1) r
def byP (rows : List (Wd × Wd)) : List (List Key × V) := byPF 0 rows
theorem val_byPF (x y : Wd) : ∀ (rows : List (Wd × Wd)) (n : Nat), valV (byPF n rows) (kP x y) = (rows.idxOf? (x, y)).map fun i => V.int ((n + i : Nat) : Int)
  | [], n => rfl
  | q :: r, n => by
    show valV ((kP q.1 q.2, V.int (n : Nat)) :: byPF (n + 1) r) _ = _
    by_cases h : q = (x, y)
    · subst h
      rw [valV_pos rfl]
      simp [List.idxOf?_cons]
    · rw [valV_neg (fun e => h (by obtain ⟨e1, e2⟩ := kP_inj e; exact Prod.ext e1 e2)), val_byPF x y r (n + 1), List.idxOf?_cons]
      have : (q == (x, y)) = false := beq_eq_false_iff_ne.mpr h
      simp only [this]
      cases r.idxOf? (x, y) with
      | none => rfl
      | some i =>
        simp only [Option.map_some, Bool.false_eq_true, if_false]
        congr 3
        omega
theorem val_byP (T : Tab) (x y : Wd) : valV (byP T.rows) (kP x y) = (T.rank x y).map fun i => V.int (i : Nat) := by
  unfold byP Tab.rank; rw [val_byPF]; simp
theorem byPF_snoc (p : Wd × Wd) : ∀ (rows : List (Wd × Wd)) (n : Nat), byPF n (rows ++ [p]) = byPF n rows ++ [(kP p.1 p.2, .int ((n + rows.length : Nat) : Int))]
  | [], n => rfl
  | q :: r, n => by
    show _ :: byPF (n + 1) (r ++ [p]) = _ :: (byPF (n + 1) r ++ _)
    rw [byPF_snoc p r (n + 1)]
    simp only [List.length_cons]
    congr 6
    omega
theorem byP_put {rows : List (Wd × Wd)} {p : Wd × Wd} (h : p ∉ rows) : putK (byP rows) (kP p.1 p.2) (.int (rows.length : Nat)) = byP (rows ++ [p]) := by
  have e : valV (byP rows) (kP p.1 p.2) = none := by
    unfold byP; rw [val_byPF, show (p.1, p.2) = p from rfl, List.idxOf?_eq_none_iff.mpr h]; rfl
  rw [putK_new _ e]
  unfold byP; rw [byPF_snoc]; simp
theorem len_byPF : ∀ (rows : List (Wd × Wd)) (n : Nat), (byPF n rows).length = rows.length
  | [], _ => rfl
  | _ :: r, n => congrArg (· + 1) (len_byPF r (n + 1))

/-! ### a table -/
def tfl (u : Wd) (bt bp kr kp : Addr) : List (Str × V) := putF "kept_pieces" (.ref kp) (putF "kept_rows" (.ref kr) (putF "by_pair" (.ref bp) (putF "by_text" (.ref bt) (putF "kept_signs" (vS u) []))))
theorem tfl_signs {u : Wd} {bt bp kr kp : Addr} : (tfl u bt bp kr kp).lookup ("kept_signs" : Str) = some (vS u) := by
  unfold tfl
  rw [lookup_putF, if_neg (by decide +kernel), lookup_putF, if_neg (by decide +kernel), lookup_putF, if_neg (by decide +kernel), lookup_putF, if_neg (by decide +kernel), lookup_putF, if_pos rfl]
theorem tfl_text {u : Wd} {bt bp kr kp : Addr} : (tfl u bt bp kr kp).lookup ("by_text" : Str) = some (.ref bt) := by
  unfold tfl
  rw [lookup_putF, if_neg (by decide +kernel), lookup_putF, if_neg (by decide +kernel), lookup_putF, if_neg (by decide +kernel), lookup_putF, if_pos rfl]
theorem tfl_pair {u : Wd} {bt bp kr kp : Addr} : (tfl u bt bp kr kp).lookup ("by_pair" : Str) = some (.ref bp) := by
  unfold tfl
  rw [lookup_putF, if_neg (by decide +kernel), lookup_putF, if_neg (by decide +kernel), lookup_putF, if_pos rfl]
theorem tfl_rows {u : Wd} {bt bp kr kp : Addr} : (tfl u bt bp kr kp).lookup ("kept_rows" : Str) = some (.ref kr) := by
  unfold tfl
  rw [lookup_putF, if_neg (by decide +kernel), lookup_putF, if_pos rfl]
theorem tfl_pieces {u : Wd} {bt bp kr kp : Addr} : (tfl u bt bp kr kp).lookup ("kept_pieces" : Str) = some (.ref kp) := by
  unfold tfl
  rw [lookup_putF, if_pos rfl]
theorem tfl_no {u : Wd} {bt bp kr kp : Addr} {m : Str} (h : ¬ m = "kept_pieces" ∧ ¬ m = "kept_rows" ∧ ¬ m = "by_pair" ∧ ¬ m = "by_text" ∧ ¬ m = "kept_signs") : (tfl u bt bp kr kp).lookup m = none := by
  unfold tfl
  rw [lookup_putF, if_neg h.1, lookup_putF, if_neg h.2.1, lookup_putF, if_neg h.2.2.1, lookup_putF, if_neg h.2.2.2.1, lookup_putF, if_neg h.2.2.2.2]
  rfl
structure TabAt (CT : Addr) (H : Hp) (t bp : Addr) (T : Tab) : Prop where
  ok : T.Ok
  ns : 1 ≤ T.signs.length ∧ T.signs.length ≤ 12
  nr : T.rows.length ≤ 24
  ex : ∃ dx bt kr kp, H t = some (.ins CT dx (tfl T.signs bt bp kr kp)) ∧ H bt = some (.dK (byT T.pieces)) ∧ H bp = some (.dT (byP T.rows)) ∧ RowsAt H kr T.rows ∧ H kp = some (.lst (T.pieces.map vS))
theorem TabAt.same {CT : Addr} {H H' : Hp} {t bp : Addr} {T : Tab} (h : TabAt CT H t bp T) (e : Same H H') : TabAt CT H' t bp T := by
  obtain ⟨h1, h2, h3, dx, bt, kr, kp, h4, h5, h6, h7, h8⟩ := h
  exact ⟨h1, h2, h3, dx, bt, kr, kp, e _ _ h4, e _ _ h5, e _ _ h6, h7.same e, e _ _ h8⟩
/-- what may change beside a table: a list, a dict of pairs that is not its own, an instance of another class -/
theorem TabAt.butT {CT : Addr} {H H' : Hp} {t bp d : Addr} {T : Tab} {kvs : List (List Key × V)} (h : TabAt CT H t bp T) (e : But d H H') (hd : H d = some (.dT kvs)) (hn : bp ≠ d) : TabAt CT H' t bp T := by
  obtain ⟨h1, h2, h3, dx, bt, kr, kp, h4, h5, h6, h7, h8⟩ := h
  exact ⟨h1, h2, h3, dx, bt, kr, kp, e _ _ (ne_of h4 hd (by intro z; cases z)) h4, e _ _ (ne_of h5 hd (by intro z; cases z)) h5, e _ _ hn h6,
    h7.but e hd (fun _ z => by cases z) (by obtain ⟨qs, h9, _⟩ := h7; exact ne_of h9 hd (by intro z; cases z)), e _ _ (ne_of h8 hd (by intro z; cases z)) h8⟩
theorem tfl_ne {u : Wd} {bt bp kr kp : Addr} : tfl u bt bp kr kp ≠ [] := fun z => by
  have := tfl_signs (u := u) (bt := bt) (bp := bp) (kr := kr) (kp := kp)
  rw [z] at this
  cases this
/-- .. a new instance -/
theorem TabAt.butI {CT C dx' : Addr} {H H' : Hp} {t bp d : Addr} {T : Tab} (h : TabAt CT H t bp T) (e : But d H H') (hd : H d = some (.ins C dx' [])) : TabAt CT H' t bp T := by
  obtain ⟨h1, h2, h3, dx, bt, kr, kp, h4, h5, h6, h7, h8⟩ := h
  refine ⟨h1, h2, h3, dx, bt, kr, kp, e _ _ (ne_of h4 hd ?_) h4, e _ _ (ne_of h5 hd (by intro z; cases z)) h5, e _ _ (ne_of h6 hd (by intro z; cases z)) h6,
    h7.but e hd (fun _ z => by cases z) (by obtain ⟨qs, h9, _⟩ := h7; exact ne_of h9 hd (by intro z; cases z)), e _ _ (ne_of h8 hd (by intro z; cases z)) h8⟩
  intro z
  injection z with _ _ z3
  exact tfl_ne z3
theorem TabAt.len_pieces {CT : Addr} {H : Hp} {t bp : Addr} {T : Tab} (h : TabAt CT H t bp T) : T.pieces.length ≤ 36 := by
  have := JR.len_pieces (T := T); have := h.ns.2; have := h.nr; omega

/-! ### follows -/
/-- may q follow p -/
def fit (T : Tab) (p q : Wd) : Bool := decide (Cut T.rows (p ++ q) = [p, q])
def ffl (t ka d : Addr) : List (Str × V) := putF "kept_truths" (.ref d) (putF "kept_alone" (.ref ka) (putF "kept_table" (.ref t) []))
theorem ffl_table {t ka d : Addr} : (ffl t ka d).lookup ("kept_table" : Str) = some (.ref t) := by
  unfold ffl
  rw [lookup_putF, if_neg (by decide +kernel), lookup_putF, if_neg (by decide +kernel), lookup_putF, if_pos rfl]
theorem ffl_alone {t ka d : Addr} : (ffl t ka d).lookup ("kept_alone" : Str) = some (.ref ka) := by
  unfold ffl
  rw [lookup_putF, if_neg (by decide +kernel), lookup_putF, if_pos rfl]
theorem ffl_truths {t ka d : Addr} : (ffl t ka d).lookup ("kept_truths" : Str) = some (.ref d) := by
  unfold ffl
  rw [lookup_putF, if_pos rfl]
theorem ffl_no {t ka d : Addr} {m : Str} (h : ¬ m = "kept_truths" ∧ ¬ m = "kept_alone" ∧ ¬ m = "kept_table") : (ffl t ka d).lookup m = none := by
  unfold ffl
  rw [lookup_putF, if_neg h.1, lookup_putF, if_neg h.2.1, lookup_putF, if_neg h.2.2]
  rfl
def memo (T : Tab) (kvs : List (List Key × V)) : Prop := (kvs.map (·.1)).Nodup ∧ ∀ kv ∈ kvs, ∃ p q, p ∈ T.pieces ∧ q ∈ T.pieces ∧ kv = (kP p q, .bl (fit T p q))
def aloneD (T : Tab) : List (Key × V) := dOf (fun p => .bl (decide (alone T p))) T.pieces
structure FolAt (CT CF : Addr) (H : Hp) (f t bp d : Addr) (T : Tab) : Prop where
  tab : TabAt CT H t bp T
  ex : ∃ dx ka kvs, H f = some (.ins CF dx (ffl t ka d)) ∧ H ka = some (.dK (aloneD T)) ∧ H d = some (.dT kvs) ∧ memo T kvs
  ne : bp ≠ d
theorem FolAt.same {CT CF : Addr} {H H' : Hp} {f t bp d : Addr} {T : Tab} (h : FolAt CT CF H f t bp d T) (e : Same H H') : FolAt CT CF H' f t bp d T := by
  obtain ⟨h1, ⟨dx, ka, kvs, h2, h3, h4, h5⟩, h6⟩ := h
  exact ⟨h1.same e, ⟨dx, ka, kvs, e _ _ h2, e _ _ h3, e _ _ h4, h5⟩, h6⟩
/-- its memo turned -/
theorem FolAt.put {CT CF : Addr} {H : Hp} {f t bp d : Addr} {T : Tab} {kvs : List (List Key × V)} (h : FolAt CT CF H f t bp d T) (hm : memo T kvs) : FolAt CT CF (upd H d (.dT kvs)) f t bp d T := by
  obtain ⟨h1, ⟨dx, ka, kvs', h2, h3, h4, h5⟩, h6⟩ := h
  exact ⟨h1.butT but_upd h4 h6, ⟨dx, ka, kvs, by rw [upd_ne (ne_of h2 h4 (by intro z; cases z))]; exact h2, by rw [upd_ne (ne_of h3 h4 (by intro z; cases z))]; exact h3, upd_same, hm⟩, h6⟩
theorem FolAt.lst {CT CF : Addr} {H : Hp} {f t bp d a : Addr} {T : Tab} {xs : List V} (h : FolAt CT CF H f t bp d T) (ha : H a = some (.lst xs)) : a ≠ d := by
  obtain ⟨h1, ⟨dx, ka, kvs', h2, h3, h4, h5⟩, h6⟩ := h
  exact ne_of ha h4 (by intro z; cases z)

/-- carried over to a heap where all it stood on but the memo is as it was -/
theorem FolAt.via {CT CF : Addr} {H H' : Hp} {f t bp d : Addr} {T : Tab} (h : FolAt CT CF H f t bp d T) (e : But d H H') (m : ∃ kvs, H' d = some (.dT kvs) ∧ memo T kvs) : FolAt CT CF H' f t bp d T := by
  obtain ⟨h1, ⟨dx, ka, kvs', h2, h3, h4, h5⟩, h6⟩ := h
  obtain ⟨kvs, h7, h8⟩ := m
  exact ⟨h1.butT e h4 h6, ⟨dx, ka, kvs, e _ _ (ne_of h2 h4 (by intro z; cases z)) h2, e _ _ (ne_of h3 h4 (by intro z; cases z)) h3, h7, h8⟩, h6⟩
theorem FolAt.mem {CT CF : Addr} {H : Hp} {f t bp d : Addr} {T : Tab} (h : FolAt CT CF H f t bp d T) : ∃ kvs, H d = some (.dT kvs) ∧ memo T kvs := by
  obtain ⟨h1, ⟨dx, ka, kvs', h2, h3, h4, h5⟩, h6⟩ := h
  exact ⟨kvs', h4, h5⟩
/-- a new object turned beside it -/
theorem FolAt.mut {CT CF : Addr} {H H' : Hp} {f t bp d p : Addr} {o : HO} {T : Tab} (h : FolAt CT CF H f t bp d T) (e : But d H H') (h' : FolAt CT CF H' f t bp d T) (hp : H p = none) : FolAt CT CF (upd H' p o) f t bp d T := by
  refine h.via (e.mut hp) ?_
  obtain ⟨kvs, h1, h2⟩ := h'.mem
  obtain ⟨kvs0, h3, h4⟩ := h.mem
  exact ⟨kvs, by rw [upd_ne (ne_of_none h3 hp)]; exact h1, h2⟩
theorem fit_alone {T : Tab} (ok : T.Ok) {p q : Wd} (h : fit T p q = true) : alone T p ∧ alone T q := by
  have := two_alone (posR ok) (of_decide_eq_true h)
  exact ⟨this.1, this.2.1⟩
theorem fit_iff {T : Tab} (ok : T.Ok) {p q : Wd} (hp : alone T p) (hq : alone T q) : fit T p q = true ↔ NC T.rows (sg p) (sg q) :=
  ⟨fun h => (two_alone (posR ok) (of_decide_eq_true h)).2.2, fun h => decide_eq_true (two_of hp hq h)⟩
theorem get_alone {T : Tab} {H : Hp} {ka : Addr} {p : Wd} (h : H ka = some (.dK (aloneD T))) (hp : p ∈ T.pieces) : DGet H ka (vS p) (some (.bl (decide (alone T p)))) := by
  have := DGet.k (k := Sum.inr (S p)) h
  unfold aloneD at this
  rw [val_dOf, if_pos hp] at this
  exact this
theorem memo_put {T : Tab} {kvs : List (List Key × V)} {p q : Wd} (h : memo T kvs) (hp : p ∈ T.pieces) (hq : q ∈ T.pieces) (hn : valV kvs (kP p q) = none) : memo T (putK kvs (kP p q) (.bl (fit T p q))) := by
  rw [putK_new _ hn]
  refine ⟨?_, fun kv hkv => ?_⟩
  · rw [List.map_append]
    refine List.nodup_append.mpr ⟨h.1, by simp, fun a ha b hb e => ?_⟩
    have : b = kP p q := by simpa using hb
    subst this; subst e
    exact valV_not hn ha
  · rcases List.mem_append.mp hkv with z | z
    · exact h.2 kv z
    · have : kv = (kP p q, V.bl (fit T p q)) := by simpa using z
      exact ⟨p, q, hp, hq, this⟩
theorem memo_get {T : Tab} {kvs : List (List Key × V)} {p q : Wd} {v : V} (h : memo T kvs) (hv : valV kvs (kP p q) = some v) : v = .bl (fit T p q) := by
  obtain ⟨p', q', _, _, e⟩ := h.2 _ (valV_mem hv)
  have e1 := (Prod.mk.inj e).1
  have e2 := (Prod.mk.inj e).2
  obtain ⟨a, b⟩ := kP_inj e1
  rw [e2, a, b]

/-! ### a nodup list within another is no longer -/
theorem nodup_le {α : Type} [DecidableEq α] : ∀ {l m : List α}, l.Nodup → (∀ x ∈ l, x ∈ m) → l.length ≤ m.length
  | [], _, _, _ => Nat.zero_le _
  | x :: r, m, h, hs => by
    obtain ⟨h1, h2⟩ := List.nodup_cons.mp h
    have hx : x ∈ m := hs x List.mem_cons_self
    have := nodup_le (l := r) (m := m.erase x) h2 fun y hy => by
      have ne : y ≠ x := fun e => h1 (e ▸ hy)
      exact (List.mem_erase_of_ne ne).mpr (hs y (List.mem_cons_of_mem _ hy))
    rw [List.length_erase_of_mem hx] at this
    have hp := List.length_pos_of_mem hx
    rw [List.length_cons]; omega
theorem memo_len {T : Tab} {kvs : List (List Key × V)} (h : memo T kvs) : kvs.length ≤ T.pieces.length * T.pieces.length := by
  have h1 : (kvs.map (·.1)).length ≤ (T.pieces.flatMap fun p => T.pieces.map fun q => kP p q).length := nodup_le h.1 fun k hk => by
    obtain ⟨kv, hkv, e⟩ := List.mem_map.mp hk
    obtain ⟨p, q, hp, hq, e2⟩ := h.2 kv hkv
    rw [← e, e2]
    exact List.mem_flatMap.mpr ⟨p, hp, List.mem_map.mpr ⟨q, hq, rfl⟩⟩
  rw [List.length_map] at h1
  refine Nat.le_trans h1 (Nat.le_of_eq ?_)
  generalize hm : T.pieces = m
  have : ∀ l : Rw, (l.flatMap fun p => m.map fun q => kP p q).length = l.length * m.length := by
    intro l
    induction l with
    | nil => simp
    | cons a r ih => rw [List.flatMap_cons, List.length_append, ih, List.length_map, List.length_cons, Nat.succ_mul, Nat.add_comm]
  exact this m
end JR
namespace JR
open PySem PySem.Spec PyProof.Rows L2 SX

/-! ### the promises -/
def LstAt (H : Hp) (a : Addr) (row : Rw) : Prop := H a = some (.lst (row.map vS))
theorem LstAt.same {H H' : Hp} {a : Addr} {row : Rw} (h : LstAt H a row) (e : Same H H') : LstAt H' a row := e _ _ h
def IntAt (H : Hp) (a : Addr) (ns : List Nat) : Prop := H a = some (.lst (ns.map fun n : Nat => V.int (n : Int)))
/-- a new object at p, all else as it was -/
def New (H H' : Hp) (p : Addr) : Prop := H p = none ∧ Same H H'
section
variable (CT CF : Addr)
def spSigns : Sp := fun vs H Q _ => ∃ t bp T, vs = [.ref t] ∧ TabAt CT H t bp T ∧ Q (vS T.signs) H
def spRows : Sp := fun vs H Q _ => ∃ t bp T, vs = [.ref t] ∧ TabAt CT H t bp T ∧ ∀ p H', New H H' p → RowsAt H' p T.rows → Q (.ref p) H'
def spPieces : Sp := fun vs H Q _ => ∃ t bp T, vs = [.ref t] ∧ TabAt CT H t bp T ∧ ∀ p H', New H H' p → LstAt H' p T.pieces → Q (.ref p) H'
def spWhich : Sp := fun vs H Q _ => ∃ t bp T u, vs = [.ref t, vS u] ∧ TabAt CT H t bp T ∧ Q (if u ∈ T.pieces then .int (T.num u : Nat) else .non) H
def spParts : Sp := fun vs H Q _ => ∃ t bp T p, vs = [.ref t, vS p] ∧ TabAt CT H t bp T ∧ p ∈ T.pieces ∧ (T.parts p = none → Q .non H) ∧
  ∀ q r, T.parts p = some r → H q = some (.tup [vS r.1, vS r.2]) → Q (.ref q) H
def spRank : Sp := fun vs H Q _ => ∃ t bp T x y, vs = [.ref t, vS x, vS y] ∧ TabAt CT H t bp T ∧ ∀ H', Same H H' → Q (optN (T.rank x y)) H'
def spLongest : Sp := fun vs H Q _ => ∃ t bp T, vs = [.ref t] ∧ TabAt CT H t bp T ∧ ∀ (m : Nat) H', Same H H' → (∀ p ∈ T.pieces, p.length ≤ m) → m ≤ 16 → Q (.int (m : Int)) H'
def spLookText : Sp := fun vs H Q _ => ∃ t bp T u, vs = [.ref t, vS u] ∧ TabAt CT H t bp T ∧ (∀ c ∈ u, c ∈ T.signs) ∧ ∀ H', Same H H' → Q .non H'
def spLookRow : Sp := fun vs H Q _ => ∃ t bp T a row, vs = [.ref t, .ref a] ∧ TabAt CT H t bp T ∧ LstAt H a row ∧ (∀ p ∈ row, p ∈ T.pieces) ∧ ∀ H', Same H H' → Q .non H'
def spJoined : Sp := fun vs H Q _ => ∃ a row L R, vs = [.ref a, vS L, vS R] ∧ LstAt H a row ∧ row.length ≤ 1000 ∧ L.length + R.length ≤ 1000 ∧ ∀ p H', New H H' p → LstAt H' p (pass L R row) → Q (.ref p) H'
def spSignsOf : Sp := fun vs H Q _ => ∃ t bp T u, vs = [.ref t, vS u] ∧ TabAt CT H t bp T ∧ (∀ c ∈ u, c ∈ T.signs) ∧ u.length ≤ 1000 ∧ ∀ p H', New H H' p → LstAt H' p (sg u) → Q (.ref p) H'
def spSweptFrom : Sp := fun vs H Q _ => ∃ t bp T a row, vs = [.ref t, .ref a, .int 0] ∧ TabAt CT H t bp T ∧ LstAt H a row ∧ (∀ p ∈ row, p ∈ T.pieces) ∧ row.length ≤ 1000 ∧ ∀ p H', New H H' p → LstAt H' p (cutF T.rows row) → Q (.ref p) H'
def spSwept : Sp := fun vs H Q _ => ∃ t bp T u, vs = [.ref t, vS u] ∧ TabAt CT H t bp T ∧ (∀ c ∈ u, c ∈ T.signs) ∧ u.length ≤ 1000 ∧ ∀ p H', New H H' p → LstAt H' p (Cut T.rows u) → Q (.ref p) H'
def spLookPiece : Sp := fun vs H Q _ => ∃ t bp T p, vs = [.ref t, vS p] ∧ TabAt CT H t bp T ∧ p ∈ T.pieces ∧ Q .non H
def spEdge : Sp := fun vs H Q _ => ∃ t bp T p, ∃ s : Bool, vs = [.ref t, vS p, .int (if s then 1 else 0)] ∧ TabAt CT H t bp T ∧ p ∈ T.pieces ∧ ∀ es a H', Edge T s p es → New H H' a → LstAt H' a es → Q (.ref a) H'
def spOwn : Sp := fun vs H Q _ => ∃ t bp T p, vs = [.ref t, vS p] ∧ TabAt CT H t bp T ∧ p ∈ T.pieces ∧ Q (.int (T.own p)) H
def spJoinedOver : Sp := fun vs H Q _ => ∃ t bp T p q, vs = [.ref t, vS p, vS q] ∧ TabAt CT H t bp T ∧ p ∈ T.pieces ∧ q ∈ T.pieces ∧
  ∀ o es fs H', Edge T true p es → Edge T false q fs → IsMin (Cross T es fs) o → Same H H' → Q (optN o) H'
def spStands (n : Nat) : Sp := fun vs H Q _ => ∃ t bp T p, vs = [.ref t, vS p] ∧ TabAt CT H t bp T ∧ p ∈ T.pieces ∧ p.length ≤ n ∧ ∀ H', Same H H' → Q (.bl (decide (alone T p))) H'
def spFInit : Sp := fun vs H Q _ => ∃ x t bp T dx, vs = [.ref x, .ref t] ∧ H x = some (.ins CF dx []) ∧ TabAt CT H t bp T ∧ ∀ d H', But x H H' → FolAt CT CF H' x t bp d T → Q .non H'
def spFTable : Sp := fun vs H Q _ => ∃ f t bp d T, vs = [.ref f] ∧ FolAt CT CF H f t bp d T ∧ Q (.ref t) H
def spIsAlone : Sp := fun vs H Q _ => ∃ f t bp d T u, vs = [.ref f, vS u] ∧ FolAt CT CF H f t bp d T ∧ Q (.bl (decide (u ∈ T.pieces ∧ alone T u))) H
/-- what a follows' question leaves: its memo may have turned -/
def FQ (H H' : Hp) (f t bp d : Addr) (T : Tab) : Prop := But d H H' ∧ FolAt CT CF H' f t bp d T
def spFits : Sp := fun vs H Q _ => ∃ f t bp d T p q, vs = [.ref f, vS p, vS q] ∧ FolAt CT CF H f t bp d T ∧ p ∈ T.pieces ∧ q ∈ T.pieces ∧ ∀ H', FQ CT CF H H' f t bp d T → Q (.bl (fit T p q)) H'
def spAfter : Sp := fun vs H Q _ => ∃ f t bp d T p, vs = [.ref f, vS p] ∧ FolAt CT CF H f t bp d T ∧ p ∈ T.pieces ∧ ∀ a H', H a = none → FQ CT CF H H' f t bp d T → LstAt H' a (T.pieces.filter (fit T p)) → Q (.ref a) H'
/-- the first border of a row at which the piece behind may not follow -/
def FirstBad (T : Tab) (row : Rw) (k : Nat) : Prop := (∃ p q, row[k]? = some p ∧ row[k + 1]? = some q ∧ fit T p q = false) ∧ ∀ j p q, j < k → row[j]? = some p → row[j + 1]? = some q → fit T p q = true
def spWrong : Sp := fun vs H Q _ => ∃ f t bp d T a row, vs = [.ref f, .ref a] ∧ FolAt CT CF H f t bp d T ∧ LstAt H a row ∧ row.length ≤ 1000 ∧ (∀ p ∈ row, p ∈ T.pieces ∧ alone T p) ∧
  (∀ H', FQ CT CF H H' f t bp d T → (∀ (j : Nat) p q, row[j]? = some p → row[j + 1]? = some q → fit T p q = true) → Q .non H') ∧
  ∀ (k : Nat) z H', FQ CT CF H H' f t bp d T → FirstBad T row k → H' z = some (.tup [.str "border", .int (k : Int)]) → Q (.ref z) H'
/-- the last piece of the cutting of the first i signs; the first of what is behind i signs -/
def lastP (T : Tab) (u : Wd) (i : Nat) : V := match (Cut T.rows (u.take i)).getLast? with
  | none => .non
  | some p => vS p
def firstP (T : Tab) (u : Wd) (i : Nat) : V := match (Cut T.rows (u.drop i)).head? with
  | none => .non
  | some p => vS p
def lastsL (T : Tab) (u : Wd) (n : Nat) : List V := (List.range n).map (lastP T u)
def firstsL (T : Tab) (u : Wd) (b : Nat) : List V := (List.range (u.length + 1)).map fun i => if i < b then .non else firstP T u i
theorem lastP_of {T : Tab} {u : Wd} {i : Nat} {p : Wd} (h : (Cut T.rows (u.take i)).getLast? = some p) : lastP T u i = vS p := by
  unfold lastP; rw [h]
theorem firstP_of {T : Tab} {u : Wd} {i : Nat} {p : Wd} (h : (Cut T.rows (u.drop i)).head? = some p) : firstP T u i = vS p := by
  unfold firstP; rw [h]
theorem lastsL_get {T : Tab} {u : Wd} {n b : Nat} (h : b < n) : (lastsL T u n)[b]? = some (lastP T u b) := by
  unfold lastsL; rw [List.getElem?_map, List.getElem?_range h]; rfl
theorem lastsL_len {T : Tab} {u : Wd} {n : Nat} : (lastsL T u n).length = n := by
  unfold lastsL; rw [List.length_map, List.length_range]
theorem firstsL_get {T : Tab} {u : Wd} {b i : Nat} (h : i ≤ u.length) : (firstsL T u b)[i]? = some (if i < b then .non else firstP T u i) := by
  unfold firstsL; rw [List.getElem?_map, List.getElem?_range (by omega)]; rfl
theorem firstsL_len {T : Tab} {u : Wd} {b : Nat} : (firstsL T u b).length = u.length + 1 := by
  unfold firstsL; rw [List.length_map, List.length_range]
theorem firstsL_all {T : Tab} (ok : T.Ok) {u : Wd} : (List.replicate (u.length + 1) [V.non]).flatten = firstsL T u u.length := by
  have e1 : ∀ n : Nat, (List.replicate n [V.non]).flatten = List.replicate n V.non := fun n => by
    induction n with
    | zero => rfl
    | succ n ih => rw [List.replicate_succ, List.flatten_cons, ih]; rfl
  rw [e1]
  refine List.ext_getElem? fun i => ?_
  by_cases h : i ≤ u.length
  · rw [firstsL_get h, List.getElem?_replicate, if_pos (by omega)]
    by_cases h2 : i < u.length
    · rw [if_pos h2]
    · rw [if_neg h2, show i = u.length by omega]
      unfold firstP
      rw [List.drop_length, cut_nil ok]; rfl
  · rw [List.getElem?_eq_none (by rw [List.length_replicate]; omega), List.getElem?_eq_none (by rw [firstsL_len]; omega)]
theorem firstsL_set {T : Tab} {u : Wd} {b : Nat} (h : b < u.length) : (firstsL T u (b + 1)).set b (firstP T u b) = firstsL T u b := by
  refine List.ext_getElem? fun i => ?_
  by_cases h1 : i ≤ u.length
  · by_cases e : i = b
    · subst e
      rw [List.getElem?_set_self (by rw [firstsL_len]; omega), firstsL_get h1, if_neg (Nat.lt_irrefl _)]
    · rw [List.getElem?_set_ne (Ne.symm e), firstsL_get h1, firstsL_get h1]
      by_cases h2 : i < b
      · rw [if_pos h2, if_pos (by omega)]
      · rw [if_neg h2, if_neg (by omega)]
  · rw [List.getElem?_eq_none (by rw [List.length_set, firstsL_len]; omega), List.getElem?_eq_none (by rw [firstsL_len]; omega)]
def TxtOf (T : Tab) (u : Wd) : Prop := (∀ c ∈ u, c ∈ T.signs) ∧ u.length ≤ 1000
def spLastAt : Sp := fun vs H Q _ => ∃ f t bp d T u a, ∃ n : Nat, vs = [.ref f, vS u, .ref a, .int (n : Int)] ∧ FolAt CT CF H f t bp d T ∧ TxtOf T u ∧ 1 ≤ n ∧ n ≤ u.length ∧ H a = some (.lst (lastsL T u n)) ∧
  ∀ H', FQ CT CF H H' f t bp d T → Q (lastP T u n) H'
def spLonger : Sp := fun vs H Q _ => ∃ f t bp d T u a, vs = [.ref f, vS u, .ref a] ∧ FolAt CT CF H f t bp d T ∧ TxtOf T u ∧ H a = some (.lst (lastsL T u 1)) ∧
  ∀ p H', H p = none → FQ CT CF H H' f t bp d T → H' p = some (.lst (lastsL T u (u.length + 1))) → Q (.ref p) H'
def spFirstAt : Sp := fun vs H Q _ => ∃ f t bp d T u a, ∃ b : Nat, vs = [.ref f, vS u, .ref a, .int (b : Int)] ∧ FolAt CT CF H f t bp d T ∧ TxtOf T u ∧ b < u.length ∧ H a = some (.lst (firstsL T u (b + 1))) ∧
  ∀ H', FQ CT CF H H' f t bp d T → Q (firstP T u b) H'
def spLasts : Sp := fun vs H Q _ => ∃ f t bp d T u, vs = [.ref f, vS u] ∧ FolAt CT CF H f t bp d T ∧ TxtOf T u ∧ ∀ p H', H p = none → FQ CT CF H H' f t bp d T → H' p = some (.lst (lastsL T u (u.length + 1))) → Q (.ref p) H'
def spFirsts : Sp := fun vs H Q _ => ∃ f t bp d T u, vs = [.ref f, vS u] ∧ FolAt CT CF H f t bp d T ∧ TxtOf T u ∧ ∀ p H', H p = none → FQ CT CF H H' f t bp d T → H' p = some (.lst (firstsL T u 0)) → Q (.ref p) H'
def spRead : Sp := fun vs H Q _ => ∃ f t bp d T u, vs = [.ref f, vS u] ∧ FolAt CT CF H f t bp d T ∧ TxtOf T u ∧ ∀ p H', H p = none → FQ CT CF H H' f t bp d T → LstAt H' p (Cut T.rows u) → Q (.ref p) H'
end
/-! ### figures, tables -/
def spWhole : Sp := fun vs H Q _ => ∃ i : Int, vs = [.int i] ∧ Q (.bl true) H
def tlS : Wd := signsText.cps.toList
def spIsSign : Sp := fun vs H Q _ => ∃ c : Nat, vs = [vS [c]] ∧ c ∈ tlS ∧ Q (.bl true) H
def SignsOk (u : Wd) : Prop := u.Nodup ∧ (∀ c ∈ u, c ∈ tlS) ∧ 1 ≤ u.length ∧ u.length ≤ 12
def spLookSigns : Sp := fun vs H Q _ => ∃ u, vs = [vS u] ∧ SignsOk u ∧ ∀ H', Same H H' → Q .non H'
def spIsRow : Sp := fun vs H Q _ => ∃ d q ps, ∃ r : Wd × Wd, vs = [.ref d, .ref q] ∧ H d = some (.dK (byT ps)) ∧ H q = some (.tup [vS r.1, vS r.2]) ∧ r.1 ∈ ps ∧ r.2 ∈ ps ∧ (jn r).length ≤ 16 ∧ jn r ∉ ps ∧ Q (.bl true) H
structure TabOk (T : Tab) : Prop where
  ok : T.Ok
  sg : SignsOk T.signs
  nr : T.rows.length ≤ 24
def spTInit (CT : Addr) : Sp := fun vs H Q _ => ∃ x T a dx, vs = [.ref x, vS T.signs, .ref a] ∧ H x = some (.ins CT dx []) ∧ TabOk T ∧ RowsAt H a T.rows ∧ ∀ bp H', But x H H' → TabAt CT H' x bp T → Q .non H'
/-! ### the law's own -/
def spCell (K : PySem.W.Frag) : Sp := fun vs H Q _ => ∃ (a : Addr) (ns : List Int), vs = [.ref a, .int 0] ∧ SqL K H a (ns.map V.int) ∧ ∀ i : Int, Q (.int i) H
def spNumbers : Sp := fun vs H Q _ => ∃ (cell salt : Int) (a : Addr) (sizes : List Nat), vs = [.int cell, .int salt, .ref a] ∧ 0 ≤ salt ∧ salt ≤ 100000 ∧ IntAt H a sizes ∧ sizes.length ≤ 1000 ∧ (∀ n ∈ sizes, 1 ≤ n ∧ n ≤ 1000) ∧
  ∀ ds p H', New H H' p → Paired (fun d s => d < s) ds sizes → IntAt H' p ds → Q (.ref p) H'
def spLSigns : Sp := fun vs H Q _ => ∃ a ds, vs = [.ref a] ∧ IntAt H a ds ∧ ds.length ≤ 12 ∧ (∀ d ∈ ds, d < 94) ∧ ∀ u H', Same H H' → u.Nodup → (∀ c ∈ u, c ∈ tlS) → u.length = ds.length → Q (vS u) H'
def spLRows : Sp := fun vs H Q _ => ∃ u a ds, vs = [vS u, .ref a] ∧ SignsOk u ∧ IntAt H a ds ∧ ds.length ≤ 48 ∧ ∀ rows p H', New H H' p → RowsAt H' p rows → TabOk ⟨u, rows⟩ → Q (.ref p) H'
def spLTable : Sp := fun vs H Q _ => ∃ cell : Int, vs = [.int cell, .int 9700, .int 24] ∧ ∀ T q p H', Same H H' → TabOk T → H' q = some (.tup [vS T.signs, .ref p]) → RowsAt H' p T.rows → Q (.ref q) H'
def spCut : Sp := fun vs H Q _ => ∃ a u rows, vs = [.ref a, vS u] ∧ RowsAt H a rows ∧ PosR rows ∧ (∀ r ∈ rows, (jn r).length ≤ 16) ∧ u.length ≤ 1000 ∧ (∀ c ∈ u, c < 0x110000) ∧ ∀ p H', New H H' p → LstAt H' p (Cut rows u) → Q (.ref p) H'
def bes (T : Tab) (p : Wd) : Rw := T.pieces.filter fun q => fit T p q
/-- the law's dict: each piece asked, those beside it -/
def Known (H : Hp) (kn : Addr) (T : Tab) (rw : Addr) : Prop := ∃ kvs : List (Key × V), H kn = some (.dK kvs) ∧ (kvs.map (·.1)).Nodup ∧ ∀ kv ∈ kvs, ∃ p a, p ∈ T.pieces ∧ alone T p ∧ kv = (Sum.inr (S p), .ref a) ∧ LstAt H a (bes T p) ∧ a ≠ rw
def aloneL (T : Tab) : Rw := T.pieces.filter fun p => decide (alone T p)
def spBeside : Sp := fun vs H Q _ => ∃ (ra al kn rw : Addr) (T : Tab) (p : Wd), vs = [.ref ra, .ref al, .ref kn, vS p] ∧ TabOk T ∧ RowsAt H ra T.rows ∧ LstAt H al (aloneL T) ∧ Known H kn T rw ∧ (∃ xs, H rw = some (.lst xs)) ∧ p ∈ T.pieces ∧ alone T p ∧
  ∀ a H', But kn H H' → Known H' kn T rw → LstAt H' a (bes T p) → a ≠ rw → Q (.ref a) H'
/-- a row made so far -/
def Made (T : Tab) (row : Rw) : Prop := Good T.rows row ∧ (∀ p ∈ row, p ∈ T.pieces) ∧ row.flatten.length ≤ 294
def spLLonger : Sp := fun vs H Q _ => ∃ (ra al kn rw da : Addr) (T : Tab) (row : Rw) (ds : List Nat), vs = [.ref ra, .ref al, .ref kn, .ref rw, .ref da] ∧ TabOk T ∧ RowsAt H ra T.rows ∧ LstAt H al (aloneL T) ∧ Known H kn T rw ∧ LstAt H rw row ∧ Made T row ∧
  rw ≠ al ∧ rw ≠ ra ∧ IntAt H da ds ∧ ds.length = 5 ∧ rw ≠ da ∧
  ∀ row' H', Made T row' → row' ≠ [] → LstAt H' rw row' → Known H' kn T rw → (∀ b o, b ≠ kn → b ≠ rw → H b = some o → H' b = some o) → Q .non H'
end JR
namespace JR
open PySem PySem.Spec PyProof.Rows L2 SX
theorem filter_succ {α : Type} {f : α → Bool} {xs : List α} {k : Nat} {x : α} (h : xs[k]? = some x) : (xs.take (k + 1)).filter f = (xs.take k).filter f ++ (if f x = true then [x] else []) := by
  rw [List.take_add_one, h, List.filter_append]
  show _ ++ [x].filter f = _
  cases hfx : f x with
  | true => rw [List.filter_cons_of_pos hfx]; rfl
  | false => rw [List.filter_cons_of_neg (by rw [hfx]; exact Bool.false_ne_true)]; rfl

theorem tls_len : tlS.length = 94 := by decide +kernel
theorem tls_nodup : tlS.Nodup := by decide +kernel
theorem tls_S : (" !\"#$&'()*+,-./0123456789:;<=>?@ABCDEFGHIJKLMNOPQRSTUVWXYZ[\\]^_`" : Str) ++ ("abcdefghijklmnopqrstuvwxyz{|}~" : Str) = S tlS := by decide +kernel
theorem tls_mem {d c : Nat} (h : c ∈ tlS) : c ∈ tlS.drop d ++ tlS.take d := by
  rw [← List.take_append_drop d tlS] at h
  rcases List.mem_append.mp h with z | z
  · exact List.mem_append.mpr (.inr z)
  · exact List.mem_append.mpr (.inl z)
theorem tls_mem' {d c : Nat} (h : c ∈ tlS.drop d ++ tlS.take d) : c ∈ tlS := by
  rcases List.mem_append.mp h with z | z
  · exact List.mem_of_mem_drop z
  · exact List.mem_of_mem_take z
/-- a sign that is not there yet -/
theorem tls_new {u : Wd} {d : Nat} (hu : u.length ≤ 12) : (tlS.drop d ++ tlS.take d).filter (fun c => !decide (c ∈ u)) ≠ [] := fun e => by
  have : tlS.length ≤ u.length := nodup_le tls_nodup fun c hc => by
    by_cases h : c ∈ u
    · exact h
    · have hm : c ∈ (tlS.drop d ++ tlS.take d).filter (fun c => !decide (c ∈ u)) := List.mem_filter.mpr ⟨tls_mem hc, by simpa using h⟩
      rw [e] at hm; cases hm
  rw [tls_len] at this; omega

/-! ### lists of texts, compared -/
def Low (row : Rw) : Prop := ∀ p ∈ row, ∀ c ∈ p, c < 0x110000
def rowD (row : Rw) : PyData := .list (row.map fun p => .str (S p))
theorem dp_all {K : PySem.W.Frag} {H : Hp} : ∀ row : Rw, DpAll K H (row.map vS) (row.map fun p => PyData.str (S p))
  | [] => .nil
  | _ :: r => .cons (.str _) (dp_all r)
theorem dp_row {K : PySem.W.Frag} {H : Hp} {a : Addr} {row : Rw} (h : H a = some (.lst (row.map vS))) : Dp K H (.ref a) (rowD row) := .lst (SqL.of h) (dp_all row)
theorem beq_S (p q : Wd) : (S p == S q) = decide (p = q) := by
  by_cases h : p = q
  · rw [decide_eq_true h, h]; exact beq_self_eq_true _
  · rw [decide_eq_false h]; exact beq_eq_false_iff_ne.mpr fun e => h (S_inj e)
theorem eqv_all : ∀ a b : Rw, PyData.eqvAll (a.map fun p => PyData.str (S p)) (b.map fun p => PyData.str (S p)) = decide (a = b)
  | [], [] => rfl
  | [], _ :: _ => rfl
  | _ :: _, [] => rfl
  | x :: a, y :: b => by
    show ((S x == S y) && PyData.eqvAll _ _) = _
    rw [eqv_all a b, beq_S]
    by_cases h1 : x = y
    · by_cases h2 : a = b
      · rw [decide_eq_true h1, decide_eq_true h2, decide_eq_true (by rw [h1, h2])]; rfl
      · rw [decide_eq_false h2, decide_eq_false (fun e => h2 (List.cons.inj e).2)]; exact Bool.and_false _
    · rw [decide_eq_false h1, decide_eq_false (fun e => h1 (List.cons.inj e).1)]; rfl
theorem eqv_row (a b : Rw) : PyData.eqv (rowD a) (rowD b) = decide (a = b) := eqv_all a b
theorem can_all : ∀ row : Rw, Low row → PyData.canLayAll0 (row.map fun p => PyData.str (S p)) = true
  | [], _ => rfl
  | p :: r, h => by
    show (PyData.strOk (S p) && PyData.canLayAll0 _) = true
    rw [can_all r fun q hq => h q (List.mem_cons_of_mem _ hq), Bool.and_true]
    unfold PyData.strOk
    have := h p List.mem_cons_self
    simpa using this
theorem depth_all : ∀ row : Rw, PyData.depthAll (row.map fun p => PyData.str (S p)) = 0
  | [] => rfl
  | p :: r => by show max 0 (PyData.depthAll _) = 0; rw [depth_all r]; rfl
theorem shaped_row {row : Rw} (h : Low row) : SeqAt.shaped (rowD row) = true := by
  unfold SeqAt.shaped
  refine Bool.and_eq_true_iff.mpr ⟨can_all row h, decide_eq_true ?_⟩
  show PyData.depthAll _ + 1 ≤ 64
  rw [depth_all]; decide
theorem tls_low : ∀ c ∈ tlS, c < 0x110000 := by decide +kernel
theorem inV_row (p : Wd) : ∀ row : Rw, inV (vS p) (row.map vS) = decide (p ∈ row)
  | [] => rfl
  | q :: r => by
    show ((S q == S p) || inV (vS p) (r.map vS)) = _
    rw [inV_row p r, beq_S]
    by_cases h : q = p
    · subst h; simp
    · rw [decide_eq_false h, Bool.false_or]
      by_cases h2 : p ∈ r
      · rw [decide_eq_true h2, decide_eq_true (List.mem_cons_of_mem _ h2)]
      · rw [decide_eq_false h2, decide_eq_false fun z => (List.mem_cons.mp z).elim (fun e => h e.symm) h2]
theorem flat_row (row : Rw) : (row.map vS).all flatV = true := by
  rw [List.all_map]
  exact List.all_eq_true.mpr fun _ _ => rfl
/-! ### tables, made row by row -/
theorem pieces_snoc (u : Wd) (rows : List (Wd × Wd)) (r : Wd × Wd) : (Tab.mk u (rows ++ [r])).pieces = (Tab.mk u rows).pieces ++ [jn r] := by
  unfold Tab.pieces
  rw [List.map_append, List.append_assoc]; rfl
theorem ok_nil {u : Wd} (h : SignsOk u) : TabOk ⟨u, []⟩ := ⟨⟨h.1, fun k p hk => by simp at hk⟩, h, by simp⟩
theorem ok_snoc {u : Wd} {rows : List (Wd × Wd)} {r : Wd × Wd} (h : TabOk ⟨u, rows⟩) (h1 : r.1 ∈ (Tab.mk u rows).pieces) (h2 : r.2 ∈ (Tab.mk u rows).pieces) (hl : (jn r).length ≤ 16) (hn : jn r ∉ (Tab.mk u rows).pieces) (h24 : rows.length < 24) : TabOk ⟨u, rows ++ [r]⟩ := by
  refine ⟨⟨h.ok.nd, fun k p hk => ?_⟩, h.sg, by rw [List.length_append]; simp; omega⟩
  have eb : ∀ j, j ≤ rows.length → (Tab.mk u (rows ++ [r])).before j = (Tab.mk u rows).before j := fun j hj => by
    unfold Tab.before
    show _ ++ ((rows ++ [r]).take j).map jn = _ ++ (rows.take j).map jn
    rw [List.take_append_of_le_length hj]
  by_cases hlt : k < rows.length
  · have hk' : rows[k]? = some p := by
      have : (rows ++ [r])[k]? = some p := hk
      rwa [List.getElem?_append_left hlt] at this
    rw [eb k (Nat.le_of_lt hlt)]
    exact h.ok.row k p hk'
  · have hke : k = rows.length := by
      have : k < (rows ++ [r]).length := (List.getElem?_eq_some_iff.mp hk).1
      rw [List.length_append] at this; simp at this; omega
    subst hke
    have : (rows ++ [r])[rows.length]? = some p := hk
    rw [List.getElem?_append_right (Nat.le_refl _), Nat.sub_self] at this
    have e : r = p := by simpa using this
    subst e
    rw [eb _ (Nat.le_refl _)]
    have ea : (Tab.mk u rows).before rows.length = (Tab.mk u rows).pieces := (pieces_all (T := ⟨u, rows⟩)).symm
    rw [ea]
    exact ⟨h1, h2, hn, hl⟩
theorem ok_take {u : Wd} {rows : List (Wd × Wd)} (h : TabOk ⟨u, rows⟩) (n : Nat) : TabOk ⟨u, rows.take n⟩ := by
  refine ⟨⟨h.ok.nd, fun k p hk => ?_⟩, h.sg, by show (rows.take n).length ≤ 24; have : rows.length ≤ 24 := h.nr; rw [List.length_take]; omega⟩
  have hk' : (rows.take n)[k]? = some p := hk
  have hl : k < n := by
    have := (List.getElem?_eq_some_iff.mp hk').1
    rw [List.length_take] at this; omega
  rw [List.getElem?_take_of_lt hl] at hk'
  have e : (Tab.mk u (rows.take n)).before k = (Tab.mk u rows).before k := by
    unfold Tab.before
    show _ ++ ((rows.take n).take k).map jn = _ ++ (rows.take k).map jn
    rw [List.take_take, Nat.min_eq_left (by omega)]
  rw [e]
  exact h.ok.row k p hk'
theorem low_pieces {T : Tab} (h : TabOk T) : Low T.pieces := fun p hp c hc => tls_low c (h.sg.2.1 c (piece_signs h.ok p hp c hc))
theorem low_sub {a b : Rw} (h : Low b) (hs : ∀ p ∈ a, p ∈ b) : Low a := fun p hp => h p (hs p hp)
theorem len36 {T : Tab} (h : TabOk T) : T.pieces.length ≤ 36 := by
  rw [len_pieces]; have := h.sg.2.2.2; have := h.nr; omega
theorem atI_at {xs : List V} {i : Int} {j : Nat} {v : V} (e : i = (j : Int)) (h : xs[j]? = some v) : atI xs i = some v := by subst e; exact atI_nat h
theorem row_mod {row : Rw} (d : Nat) (h : row ≠ []) : ∃ x ∈ row, atI (row.map vS) ((d : Int) % (((row.map vS).length : Nat) : Int)) = some (vS x) := by
  have hl : 0 < row.length := List.length_pos_iff.mpr h
  have hlt : d % row.length < row.length := Nat.mod_lt _ hl
  refine ⟨row[d % row.length], List.getElem_mem hlt, ?_⟩
  rw [List.length_map]
  exact atI_at (Int.natCast_emod d row.length).symm (by rw [List.getElem?_map, List.getElem?_eq_getElem hlt]; rfl)
theorem get_int {ds : List Nat} {j : Nat} {d : Nat} (h : ds[j]? = some d) : (ds.map fun n : Nat => V.int (n : Int))[j]? = some (V.int (d : Int)) := by
  rw [List.getElem?_map, h]; rfl
theorem pieces_pos {T : Tab} (h : TabOk T) : T.pieces ≠ [] := fun e => by
  have := len_pieces (T := T)
  rw [e] at this
  have := h.sg.2.2.1
  simp at *; omega
/-- the sizes of a table's digits -/
def szs : List Nat := [4, 12, 3, 4, 4, 25] ++ List.replicate 12 94 ++ List.replicate 48 36
theorem szs_len : szs.length = 66 := by decide
theorem szs_sign : ∀ i < 12, szs[6 + i]? = some 94 := by decide
theorem szs_ok : ∀ n ∈ szs, 1 ≤ n ∧ n ≤ 1000 := by decide
theorem digit {ds : List Nat} (h : Paired (fun d s => d < s) ds szs) {j s : Nat} (hs : szs[j]? = some s) : ∃ d, ds[j]? = some d ∧ d < s := pair_get h hs
theorem digits_sign {ds : List Nat} (h : Paired (fun d s => d < s) ds szs) {k : Nat} (hk : k ≤ 12) : ∀ d ∈ (ds.drop 6).take k, d < 94 := fun d hd => by
  obtain ⟨i, hi⟩ := List.mem_iff_getElem?.mp hd
  have hl := (List.getElem?_eq_some_iff.mp hi).1
  rw [List.length_take] at hl
  rw [List.getElem?_take_of_lt (by omega), List.getElem?_drop] at hi
  obtain ⟨s, hs, hlt⟩ := pair_get' h hi
  rw [szs_sign i (by omega)] at hs
  rw [Option.some.inj hs]; exact hlt
theorem RowsAt.take {H : Hp} {rows : List (Wd × Wd)} {qs : List Addr} (h : Paired (fun q (r : Wd × Wd) => H q = some (.tup [vS r.1, vS r.2])) qs rows) (n : Nat) : Paired (fun q (r : Wd × Wd) => H q = some (.tup [vS r.1, vS r.2])) (qs.take n) (rows.take n) := by
  induction h generalizing n with
  | nil => simp; exact .nil
  | cons r t ih =>
    cases n with
    | zero => exact .nil
    | succ n => exact .cons r (ih n)
/-! ### the law's own cutting: a pass that looks back -/
def stp (L R : Wd) (acc : Rw) (p : Wd) : Rw := if p = R ∧ acc.getLast? = some L then acc.dropLast ++ [L ++ R] else acc ++ [p]
theorem stp_fold {L R : Wd} (hR : R ≠ []) : ∀ (r acc : Rw) (x : Wd), r.foldl (stp L R) (acc ++ [x]) = acc ++ pass L R (x :: r)
  | [], acc, x => rfl
  | y :: r, acc, x => by
    rw [List.foldl_cons]
    by_cases h : x = L ∧ y = R
    · have e : stp L R (acc ++ [x]) y = acc ++ [L ++ R] := by
        unfold stp
        rw [if_pos ⟨h.2, by rw [List.getLast?_concat, h.1]⟩, List.dropLast_concat]
      rw [e, stp_fold hR r acc (L ++ R), pass_two h]
      congr 1
      cases r with
      | nil => rfl
      | cons z r' => rw [pass_one (fun w => hR (by simpa using w.1))]
    · have e : stp L R (acc ++ [x]) y = (acc ++ [x]) ++ [y] := by
        unfold stp
        rw [if_neg fun w => h ⟨by have := w.2; rw [List.getLast?_concat] at this; exact Option.some.inj this, w.1⟩]
      rw [e, stp_fold hR r (acc ++ [x]) y, pass_one h, List.append_assoc]; rfl
theorem fold_pass {L R : Wd} (hR : R ≠ []) : ∀ row : Rw, row.foldl (stp L R) [] = pass L R row
  | [] => rfl
  | x :: r => by
    rw [List.foldl_cons]
    have e : stp L R [] x = [] ++ [x] := by
      unfold stp
      rw [if_neg fun w => by have := w.2; simp at this]
    rw [e, stp_fold hR r [] x]; rfl
theorem stp_join {L R : Wd} {fd : Rw} : stp L R (fd ++ [L]) R = fd ++ [L ++ R] := by
  unfold stp
  rw [if_pos ⟨rfl, List.getLast?_concat⟩, List.dropLast_concat]
theorem stp_add {L R : Wd} {fd : Rw} {p : Wd} (h : ¬ (p = R ∧ fd.getLast? = some L)) : stp L R fd p = fd ++ [p] := by
  unfold stp; rw [if_neg h]
theorem stp_flat (L R : Wd) (fd : Rw) (p : Wd) : (stp L R fd p).flatten = fd.flatten ++ p := by
  by_cases h : p = R ∧ fd.getLast? = some L
  · obtain ⟨fd', e⟩ : ∃ fd', fd = fd' ++ [L] := by
      have hne : fd ≠ [] := fun z => by have := h.2; rw [z] at this; cases this
      refine ⟨fd.dropLast, ?_⟩
      have e1 := List.dropLast_concat_getLast hne
      have h2 := h.2
      rw [List.getLast?_eq_some_getLast hne] at h2
      rw [← Option.some.inj h2]; exact e1.symm
    rw [h.1, e, stp_join]; simp
  · rw [stp_add h]; simp
theorem stp_len (L R : Wd) (fd : Rw) (p : Wd) : (stp L R fd p).length ≤ fd.length + 1 := by
  unfold stp
  split
  · rw [List.length_append, List.length_dropLast]; show fd.length - 1 + 1 ≤ _; omega
  · rw [List.length_append]; exact Nat.le_refl _
theorem fold_snoc {L R : Wd} {row : Rw} {k : Nat} {p : Wd} (h : row[k]? = some p) : (row.take (k + 1)).foldl (stp L R) [] = stp L R ((row.take k).foldl (stp L R) []) p := by
  rw [List.take_add_one, h, List.foldl_append]; rfl
theorem low_flat {u : Wd} (hu : ∀ c ∈ u, c < 0x110000) {row : Rw} (h : ∀ c ∈ row.flatten, c ∈ u) : Low row := fun p hp c hc => hu c (h c (List.mem_flatten.mpr ⟨p, hp, hc⟩))
theorem ixN_last (n : Nat) : ixN (n + 1) (-1) = some n := by
  unfold ixN
  rw [if_neg (by decide), if_pos (by omega)]
  congr 1
  omega
/-! ### the law's dict of those beside -/
theorem Known.get {H : Hp} {rw : Addr} {T : Tab} {kvs : List (Key × V)} {p : Wd} {v : V} (h : ∀ kv ∈ kvs, ∃ p a, p ∈ T.pieces ∧ alone T p ∧ kv = (Sum.inr (S p), .ref a) ∧ LstAt H a (bes T p) ∧ a ≠ rw) (hv : valV kvs (Sum.inr (S p) : Key) = some v) : ∃ a, v = .ref a ∧ LstAt H a (bes T p) ∧ a ≠ rw := by
  obtain ⟨p', a, _, _, e, h1, h2⟩ := h _ (valV_mem hv)
  have e1 := keyS_inj (Prod.mk.inj e).1
  subst e1
  exact ⟨a, (Prod.mk.inj e).2, h1, h2⟩
theorem Known.len {H : Hp} {rw : Addr} {T : Tab} {kvs : List (Key × V)} (nd : (kvs.map (·.1)).Nodup) (h : ∀ kv ∈ kvs, ∃ p a, p ∈ T.pieces ∧ alone T p ∧ kv = (Sum.inr (S p), .ref a) ∧ LstAt H a (bes T p) ∧ a ≠ rw) : kvs.length ≤ T.pieces.length := by
  have h1 : (kvs.map (·.1)).length ≤ (T.pieces.map fun p => (Sum.inr (S p) : Key)).length := nodup_le nd fun k hk => by
    obtain ⟨kv, hkv, e⟩ := List.mem_map.mp hk
    obtain ⟨p, a, hp, _, e2, _⟩ := h kv hkv
    rw [← e, e2]
    exact List.mem_map.mpr ⟨p, hp, rfl⟩
  rw [List.length_map, List.length_map] at h1
  exact h1
theorem Known.to {H H' : Hp} {kn rw : Addr} {T : Tab} (h : Known H kn T rw) (hk : ∀ o, H kn = some o → H' kn = some o) (e : ∀ b o, b ≠ kn → b ≠ rw → H b = some o → H' b = some o) : Known H' kn T rw := by
  obtain ⟨kvs, h1, h2, h3⟩ := h
  refine ⟨kvs, hk _ h1, h2, fun kv hkv => ?_⟩
  obtain ⟨p, a, a1, a2, a3, a4, a5⟩ := h3 kv hkv
  exact ⟨p, a, a1, a2, a3, e _ _ (ne_of a4 h1 (by intro z; cases z)) a5 a4, a5⟩
theorem Known.same {H H' : Hp} {kn rw : Addr} {T : Tab} (h : Known H kn T rw) (e : Same H H') : Known H' kn T rw := h.to (fun _ z => e _ _ z) fun _ _ _ _ z => e _ _ z
theorem Known.put {H : Hp} {kn rw D : Addr} {T : Tab} {kvs : List (Key × V)} {p : Wd} (h1 : H kn = some (.dK kvs)) (h2 : (kvs.map (·.1)).Nodup) (h3 : ∀ kv ∈ kvs, ∃ p a, p ∈ T.pieces ∧ alone T p ∧ kv = (Sum.inr (S p), .ref a) ∧ LstAt H a (bes T p) ∧ a ≠ rw)
    (hn : valV kvs (Sum.inr (S p) : Key) = none) (hp : p ∈ T.pieces) (ha : alone T p) (hD : LstAt H D (bes T p)) (hr : D ≠ rw) : Known (upd H kn (.dK (putK kvs (Sum.inr (S p)) (.ref D)))) kn T rw := by
  have ne : ∀ a row, LstAt H a row → a ≠ kn := fun a row z => ne_of z h1 (by intro z; cases z)
  rw [putK_new _ hn]
  refine ⟨_, upd_same, ?_, fun kv hkv => ?_⟩
  · rw [List.map_append]
    refine List.nodup_append.mpr ⟨h2, by simp, fun a ha b hb e => ?_⟩
    have : b = (Sum.inr (S p) : Key) := by simpa using hb
    subst this; subst e
    exact valV_not hn ha
  · rcases List.mem_append.mp hkv with z | z
    · obtain ⟨p', a, a1, a2, a3, a4, a5⟩ := h3 kv z
      exact ⟨p', a, a1, a2, a3, by unfold LstAt; rw [upd_ne (ne a _ a4)]; exact a4, a5⟩
    · have : kv = (Sum.inr (S p), V.ref D) := by simpa using z
      exact ⟨p, D, hp, ha, this, by unfold LstAt; rw [upd_ne (ne D _ hD)]; exact hD, hr⟩
theorem bes_alone {T : Tab} (h : TabOk T) (p : Wd) : (aloneL T).filter (fun q => fit T p q) = bes T p := by
  unfold aloneL bes
  rw [List.filter_filter]
  refine List.filter_congr fun q hq => ?_
  cases hf : fit T p q with
  | false => rfl
  | true => rw [decide_eq_true (fit_alone h.ok hf).2]; rfl
theorem aloneL_len {T : Tab} (h : TabOk T) : (aloneL T).length ≤ 36 := Nat.le_trans (List.length_filter_le _ _) (len36 h)
theorem aloneL_mem {T : Tab} {p : Wd} (h : p ∈ aloneL T) : p ∈ T.pieces ∧ alone T p := by
  have := List.mem_filter.mp h
  exact ⟨this.1, of_decide_eq_true this.2⟩
theorem rows16 {T : Tab} (h : TabOk T) : ∀ r ∈ T.rows, (jn r).length ≤ 16 := fun r hr => by
  obtain ⟨k, hk⟩ := List.mem_iff_getElem?.mp hr
  exact (h.ok.row k r hk).2.2.2
theorem low_two {T : Tab} (h : TabOk T) {p q : Wd} (hp : p ∈ T.pieces) (hq : q ∈ T.pieces) : ∀ c ∈ p ++ q, c < 0x110000 := fun c hc =>
  (List.mem_append.mp hc).elim (low_pieces h p hp c) (low_pieces h q hq c)
theorem low_cut {rows : List (Wd × Wd)} {u : Wd} (h : ∀ c ∈ u, c < 0x110000) : Low (Cut rows u) := low_flat h fun c hc => by rw [flat_Cut] at hc; exact hc
theorem RowsAt.two {H H' : Hp} {kn rw a : Addr} {rows : List (Wd × Wd)} {kvs : List (Key × V)} {xs : List V} (h : RowsAt H a rows) (e : ∀ b o, b ≠ kn → b ≠ rw → H b = some o → H' b = some o) (h1 : H kn = some (.dK kvs)) (h2 : H rw = some (.lst xs)) (h3 : a ≠ rw) : RowsAt H' a rows := by
  obtain ⟨qs, a1, a2⟩ := h
  exact ⟨qs, e _ _ (ne_of a1 h1 (by intro z; cases z)) h3 a1, Paired.mapP a2 fun _ _ z => e _ _ (ne_of z h1 (by intro z; cases z)) (ne_of z h2 (by intro z; cases z)) z⟩
theorem joinL_nil : ∀ row : Rw, TL.joinL [] row = row.flatten
  | [] => rfl
  | [x] => by simp [TL.joinL]
  | x :: y :: r => by
    have := joinL_nil (y :: r)
    simp only [TL.joinL, List.append_nil, List.flatten_cons] at *
    rw [this]; rfl
theorem join0 (row : Rw) : Txt.join ("" : Str) (row.map S) = S row.flatten := by
  have := join_S [] row
  rw [joinL_nil] at this
  exact this
theorem join_sz (row : Rw) (h : row.flatten.length ≤ 294) : ((row.map S).map (·.length)).sum + (row.map S).length * ("" : Str).length ≤ 16777216 := by
  have e : (row.map S).map (·.length) = row.map List.length := by
    rw [List.map_map]
    exact List.map_congr_left fun p _ => S_len p
  rw [e, ← List.length_flatten, show ("" : Str).length = 0 from by decide +kernel]
  omega
theorem map_S (row : Rw) : (row.map S).map V.str = row.map vS := by rw [List.map_map]; rfl
theorem made_nil (T : Tab) : Made T [] := ⟨trivial, (fun p hp => by cases hp), by simp⟩
theorem made_snoc {T : Tab} {row : Rw} {x : Wd} (h : Made T row) (hx : x ∈ T.pieces) (ha : alone T x) (hl : ∀ l, row.getLast? = some l → fit T l x = true) (hs : row.flatten.length + x.length ≤ 294) : Made T (row ++ [x]) := by
  refine ⟨?_, fun p hp => ?_, ?_⟩
  · by_cases hr : row = []
    · subst hr; exact ha
    · have e := List.dropLast_concat_getLast hr
      have hl' := of_decide_eq_true (hl _ (List.getLast?_eq_some_getLast hr))
      have g := h.1
      rw [← e] at g ⊢
      exact good_snoc _ _ _ g hl' ha
  · rcases List.mem_append.mp hp with z | z
    · exact h.2.1 p z
    · rw [show p = x by simpa using z]; exact hx
  · rw [List.flatten_append, List.length_append]; simpa using hs
theorem flat_ge : ∀ row : Rw, NE row → row.length ≤ row.flatten.length
  | [], _ => Nat.zero_le _
  | p :: r, h => by
    have := flat_ge r fun q hq => h q (List.mem_cons_of_mem _ hq)
    have h1 := List.length_pos_iff.mpr (h p List.mem_cons_self)
    rw [List.flatten_cons, List.length_append, List.length_cons]; omega
theorem made_len {T : Tab} {row : Rw} (ok : TabOk T) (h : Made T row) : row.length ≤ 294 := Nat.le_trans (flat_ge row fun p hp => piece_ne ok.ok p (h.2.1 p hp)) h.2.2
theorem aloneL_ne {T : Tab} (ok : TabOk T) : aloneL T ≠ [] := fun e => by
  have hs := ok.sg.2.2.1
  cases hu : T.signs with
  | nil => rw [hu] at hs; simp at hs
  | cons c r =>
    have hc : c ∈ T.signs := by rw [hu]; exact List.mem_cons_self
    have : [c] ∈ aloneL T := List.mem_filter.mpr ⟨List.mem_append_left _ (List.mem_map.mpr ⟨c, hc, rfl⟩), decide_eq_true (sign_alone ok.ok hc)⟩
    rw [e] at this; cases this
end JR
namespace JR
open PySem PySem.Spec PyProof.Rows L2 SX
def spLaw (K : PySem.W.Frag) : Sp := fun vs H Q _ => ∃ (a : Addr) (ns : List Int), vs = [.ref a] ∧ SqL K H a (ns.map V.int) ∧ ns.length ≤ 63 ∧ ∀ H', Q (.bl true) H'
theorem sqL_same {K : PySem.W.Frag} {H H' : Hp} {a : Addr} {xs : List V} (h : SqL K H a xs) (e : Same H H') : SqL K H' a xs :=
  h.elim (fun h => .inl (h.elim (fun h => .inl (e _ _ h)) fun ⟨o, h⟩ => .inr ⟨o, e _ _ h⟩)) fun h => .inr h
/-! ### what a follows' questions leave -/
section
variable {CT CF f t bp d kn : Addr} {H H1 H2 : Hp} {T : Tab}
theorem FQ.refl (h : FolAt CT CF H f t bp d T) : FQ CT CF H H f t bp d T := ⟨But.refl _ _, h⟩
theorem FQ.same (h : FQ CT CF H H1 f t bp d T) (e : Same H1 H2) : FQ CT CF H H2 f t bp d T := ⟨h.1.trans (e.but d), h.2.same e⟩
theorem FQ.trans (h : FQ CT CF H H1 f t bp d T) (h' : FQ CT CF H1 H2 f t bp d T) : FQ CT CF H H2 f t bp d T := ⟨h.1.trans h'.1, h'.2⟩
theorem FQ.lst (h : FQ CT CF H H1 f t bp d T) (F : FolAt CT CF H f t bp d T) {a : Addr} {xs : List V} (e : H a = some (.lst xs)) : H1 a = some (.lst xs) := h.1 _ _ (F.lst e) e
theorem FolAt.dne (F : FolAt CT CF H f t bp d T) {a : Addr} {kvs : List (Key × V)} (e : H a = some (.dK kvs)) : a ≠ d := by
  obtain ⟨m, h1, _⟩ := F.mem
  exact ne_of e h1 (by intro z; cases z)
theorem FQ.rows (h : FQ CT CF H H1 f t bp d T) (F : FolAt CT CF H f t bp d T) {a : Addr} {rows : List (Wd × Wd)} (e : RowsAt H a rows) : RowsAt H1 a rows := by
  obtain ⟨m, h1, _⟩ := F.mem
  obtain ⟨qs, h2, _⟩ := id e
  exact e.but h.1 h1 (fun _ z => by cases z) (F.lst h2)
theorem FQ.known {rw : Addr} (h : FQ CT CF H H1 f t bp d T) (F : FolAt CT CF H f t bp d T) (e : Known H kn T rw) : Known H1 kn T rw := by
  obtain ⟨kvs, h1, h2, h3⟩ := e
  refine ⟨kvs, h.1 _ _ (F.dne h1) h1, h2, fun kv hkv => ?_⟩
  obtain ⟨p, a, a1, a2, a3, a4, a5⟩ := h3 kv hkv
  exact ⟨p, a, a1, a2, a3, h.lst F a4, a5⟩
theorem TabAt.butK {kvs : List (Key × V)} (h : TabAt CT H t bp T) (e : But kn H H1) (hk : H kn = some (.dK kvs)) (hr : ∀ kv ∈ kvs, ∃ a, kv.2 = .ref a) (hp : T.pieces ≠ []) : TabAt CT H1 t bp T := by
  obtain ⟨h1, h2, h3, dx, bt, kr, kp, h4, h5, h6, h7, h8⟩ := h
  refine ⟨h1, h2, h3, dx, bt, kr, kp, e _ _ (ne_of h4 hk (by intro z; cases z)) h4, e _ _ (ne_of h5 hk ?_) h5, e _ _ (ne_of h6 hk (by intro z; cases z)) h6,
    h7.but e hk (fun _ z => by cases z) (by obtain ⟨qs, h9, _⟩ := h7; exact ne_of h9 hk (by intro z; cases z)), e _ _ (ne_of h8 hk (by intro z; cases z)) h8⟩
  intro z
  have z : byT T.pieces = kvs := by injection z
  cases hq : T.pieces with
  | nil => exact hp hq
  | cons p r =>
    obtain ⟨a, ha⟩ := hr (Sum.inr (S p), .int (0 : Nat)) (by rw [← z, hq]; exact List.mem_cons_self)
    cases ha
theorem FolAt.butK {kvs : List (Key × V)} (h : FolAt CT CF H f t bp d T) (e : But kn H H1) (hk : H kn = some (.dK kvs)) (hr : ∀ kv ∈ kvs, ∃ a, kv.2 = .ref a) (hp : T.pieces ≠ []) : FolAt CT CF H1 f t bp d T := by
  obtain ⟨h1, ⟨dx, ka, m, h2, h3, h4, h5⟩, h6⟩ := h
  refine ⟨h1.butK e hk hr hp, ⟨dx, ka, m, e _ _ (ne_of h2 hk (by intro z; cases z)) h2, e _ _ (ne_of h3 hk ?_) h3, e _ _ (ne_of h4 hk (by intro z; cases z)) h4, h5⟩, h6⟩
  intro z
  have z : aloneD T = kvs := by injection z
  cases hq : T.pieces with
  | nil => exact hp hq
  | cons p r =>
    obtain ⟨a, ha⟩ := hr (Sum.inr (S p), .bl (decide (alone T p))) (by rw [← z]; unfold aloneD dOf; rw [hq]; exact List.mem_cons_self)
    cases ha
theorem TabAt.butF {o : Obj} {u : HO} (h : TabAt CT H t bp T) (e : But kn H H1) (hk : H kn = some (.frz o u)) : TabAt CT H1 t bp T := by
  obtain ⟨h1, h2, h3, dx, bt, kr, kp, h4, h5, h6, h7, h8⟩ := h
  exact ⟨h1, h2, h3, dx, bt, kr, kp, e _ _ (ne_of h4 hk (by intro z; cases z)) h4, e _ _ (ne_of h5 hk (by intro z; cases z)) h5, e _ _ (ne_of h6 hk (by intro z; cases z)) h6,
    h7.but e hk (fun _ z => by cases z) (by obtain ⟨qs, h9, _⟩ := h7; exact ne_of h9 hk (by intro z; cases z)), e _ _ (ne_of h8 hk (by intro z; cases z)) h8⟩
theorem FolAt.butF {o : Obj} {u : HO} (h : FolAt CT CF H f t bp d T) (e : But kn H H1) (hk : H kn = some (.frz o u)) : FolAt CT CF H1 f t bp d T := by
  obtain ⟨h1, ⟨dx, ka, m, h2, h3, h4, h5⟩, h6⟩ := h
  exact ⟨h1.butF e hk, ⟨dx, ka, m, e _ _ (ne_of h2 hk (by intro z; cases z)) h2, e _ _ (ne_of h3 hk (by intro z; cases z)) h3, e _ _ (ne_of h4 hk (by intro z; cases z)) h4, h5⟩, h6⟩
end
/-- a list, a row's list, carried over -/
theorem lst_but {H H' : Hp} {k a : Addr} {o : HO} {xs : List V} (e : But k H H') (hk : H k = some o) (ho : ∀ xs, o ≠ .lst xs) (h : H a = some (.lst xs)) : H' a = some (.lst xs) := e _ _ (ne_of h hk fun z => ho _ z.symm) h
theorem rows_but {H H' : Hp} {k a : Addr} {o : HO} {rows : List (Wd × Wd)} (e : But k H H') (hk : H k = some o) (ho : ∀ xs, o ≠ .lst xs) (ho2 : ∀ xs, o ≠ .tup xs) (h : RowsAt H a rows) : RowsAt H' a rows := by
  obtain ⟨qs, h2, _⟩ := id h
  exact h.but e hk ho2 (ne_of h2 hk fun z => ho _ z.symm)
/-- the law's own list of pieces that stand alone -/
theorem alone_list (T : Tab) (ok : TabOk T) : sg T.signs ++ (T.rows.filter fun r => decide (Cut T.rows (jn r) = [jn r])).map jn = aloneL T := by
  unfold aloneL Tab.pieces
  rw [List.filter_append]
  congr 1
  · refine (List.filter_eq_self.mpr fun p hp => ?_).symm
    obtain ⟨c, hc, rfl⟩ := List.mem_map.mp hp
    exact decide_eq_true (sign_alone ok.ok hc)
  · rw [List.filter_map]; rfl
theorem made_cut {T : Tab} {row : Rw} (ok : TabOk T) (h : Made T row) : Cut T.rows row.flatten = row := good_cut (posR ok.ok) row h.1
theorem made_signs {T : Tab} {row : Rw} (ok : TabOk T) (h : ∀ p ∈ row, p ∈ T.pieces) : ∀ c ∈ row.flatten, c ∈ T.signs := fun c hc => by
  obtain ⟨p, hp, hc⟩ := List.mem_flatten.mp hc
  exact piece_signs ok.ok p (h p hp) c hc
theorem made_alone {T : Tab} {row : Rw} (ok : TabOk T) (h : Made T row) : ∀ p ∈ row, p ∈ T.pieces ∧ alone T p := fun p hp => ⟨h.2.1 p hp, good_mem (posR ok.ok) row h.1 p hp⟩
theorem made_fit {T : Tab} {row : Rw} (h : Made T row) : ∀ (j : Nat) p q, row[j]? = some p → row[j + 1]? = some q → fit T p q = true := fun j p q h1 h2 => decide_eq_true (good_pair row h.1 j p q h1 h2)
theorem bad_at {T : Tab} {row : Rw} {x l : Wd} (ok : TabOk T) (h : Made T row) (hl : row.getLast? = some l) (hx : fit T l x = false) {k : Nat} (hb : FirstBad T (row ++ [x]) k) : (k : Int) = ((row.length : Nat) : Int) - 1 := by
  obtain ⟨⟨p, q, h1, h2, h3⟩, h4⟩ := hb
  have hne : row ≠ [] := fun z => by rw [z] at hl; cases hl
  have hp := List.length_pos_iff.mpr hne
  have hk : k + 1 < (row ++ [x]).length := (List.getElem?_eq_some_iff.mp h2).1
  rw [List.length_append] at hk
  have hk : k + 1 < row.length + 1 := hk
  by_cases e : k + 1 < row.length
  · rw [List.getElem?_append_left (by omega)] at h1
    rw [List.getElem?_append_left e] at h2
    rw [made_fit h k p q h1 h2] at h3; cases h3
  · omega
theorem bad_some {T : Tab} {row : Rw} {x l : Wd} (hl : row.getLast? = some l) (hx : fit T l x = false) (h : ∀ (j : Nat) p q, (row ++ [x])[j]? = some p → (row ++ [x])[j + 1]? = some q → fit T p q = true) : False := by
  have hne : row ≠ [] := fun z => by rw [z] at hl; cases hl
  have hp := List.length_pos_iff.mpr hne
  rw [List.getLast?_eq_getElem?] at hl
  have h1 : (row ++ [x])[row.length - 1]? = some l := by rw [List.getElem?_append_left (by omega)]; exact hl
  have h2 : (row ++ [x])[row.length - 1 + 1]? = some x := by
    rw [show row.length - 1 + 1 = row.length by omega, List.getElem?_append_right (Nat.le_refl _), Nat.sub_self]; rfl
  rw [h _ _ _ h1 h2] at hx; cases hx
theorem not_cut {T : Tab} {row : Rw} {x l : Wd} (ok : TabOk T) (hl : row.getLast? = some l) (hx : fit T l x = false) : Cut T.rows (row.flatten ++ x) ≠ row ++ [x] := fun e => by
  have hne : row ≠ [] := fun z => by rw [z] at hl; cases hl
  have e1 := List.dropLast_concat_getLast hne
  rw [List.getLast?_eq_some_getLast hne] at hl
  rw [Option.some.inj hl] at e1
  have e2 : row ++ [x] = row.dropLast ++ [l, x] := by
    conv => lhs; rw [← e1]
    simp
  have e3 : row.flatten ++ x = (row.dropLast ++ [l, x]).flatten := by rw [← e2]; simp
  have : fit T l x = true := decide_eq_true (good_last (posR ok.ok) row.dropLast l x (by rw [← e3, ← e2]; exact e))
  rw [hx] at this; cases this
def bord (k : Int) : PyData := .tuple [.str "border", .int k]
theorem dp_bord {K : PySem.W.Frag} {H : Hp} {a : Addr} {k : Int} (h : H a = some (.tup [.str "border", .int k])) : Dp K H (.ref a) (bord k) := .tup (SqT.of h) (.cons (.str _) (.cons (.int _) .nil))
theorem shaped_bord (k : Int) : SeqAt.shaped (bord k) = true := by
  unfold SeqAt.shaped
  refine Bool.and_eq_true_iff.mpr ⟨?_, decide_eq_true ?_⟩
  · show (PyData.strOk "border" && (true && true)) = true
    decide +kernel
  · show max 0 (max 0 0) + 1 ≤ 64
    decide
theorem eqv_bord (k : Int) : PyData.eqv (bord k) (bord k) = true := by
  show ((("border" : Str) == "border") && ((k == k) && true)) = true
  rw [beq_self_eq_true, beq_self_eq_true]; rfl
end JR
namespace JR
open PySem PySem.Spec PyProof.Rows L2 SX
section
variable {P : Program} {w : World} {K : PySem.W.Frag} {mg : Str → Option Value} {base : Heap} {CT CF : Addr}
theorem sc_Table_signs : FnScope ["self"] ["self"] (defScope (inClass (top 42) 1)) := ⟨rfl, rfl, rfl, by decide +kernel, rfl, by decide +kernel, by decide +kernel⟩
theorem ok_Table_signs (T : Txt K mg CT CF) (h0 : HereM K CT "signs" "Table.signs" (inClass (top 42) 1))  : MetC P w K mg base 1 CT "signs" (spSigns CT) := by
  refine met_of h0 sc_Table_signs (fun _ _ _ _ _ _ us hl => match us, hl with | [_], _ => rfl) (fun vs H Q E h => ?_) (fun f cdv A outer s H vs Q E hr h => ?_)
  · (first | (obtain ⟨_, rfl, _⟩ := h; rfl) | (obtain ⟨_, _, rfl, _⟩ := h; rfl) | (obtain ⟨_, _, _, rfl, _⟩ := h; rfl) | (obtain ⟨_, _, _, _, rfl, _⟩ := h; rfl) | (obtain ⟨_, _, _, _, _, rfl, _⟩ := h; rfl) | (obtain ⟨_, _, _, _, _, _, rfl, _⟩ := h; rfl) | (obtain ⟨_, _, _, _, _, _, _, rfl, _⟩ := h; rfl) | (obtain ⟨_, _, _, _, _, _, _, _, rfl, _⟩ := h; rfl))
  · have hu := hu_of hr
    obtain ⟨t, bp, T0, rfl, h1, q⟩ := h
    obtain ⟨dx, bt, kr, kp, e1, e2, e3, e4, e5⟩ := h1.ex
    refine ⟨_, (pss_one (ps_ret (pe_fld (pv 0) rfl))), ?_⟩
    exact ⟨_, rfl, t, CT, dx, _, _, rfl, e1, T.clT, T.nT.1, tfl_signs, q⟩
theorem sc_Table_rows : FnScope ["self"] ["self"] (defScope (inClass (top 42) 2)) := ⟨rfl, rfl, rfl, by decide +kernel, rfl, by decide +kernel, by decide +kernel⟩
theorem ok_Table_rows (T : Txt K mg CT CF) (h0 : HereM K CT "rows" "Table.rows" (inClass (top 42) 2))  : MetC P w K mg base 1 CT "rows" (spRows CT) := by
  refine met_of h0 sc_Table_rows (fun _ _ _ _ _ _ us hl => match us, hl with | [_], _ => rfl) (fun vs H Q E h => ?_) (fun f cdv A outer s H vs Q E hr h => ?_)
  · (first | (obtain ⟨_, rfl, _⟩ := h; rfl) | (obtain ⟨_, _, rfl, _⟩ := h; rfl) | (obtain ⟨_, _, _, rfl, _⟩ := h; rfl) | (obtain ⟨_, _, _, _, rfl, _⟩ := h; rfl) | (obtain ⟨_, _, _, _, _, rfl, _⟩ := h; rfl) | (obtain ⟨_, _, _, _, _, _, rfl, _⟩ := h; rfl) | (obtain ⟨_, _, _, _, _, _, _, rfl, _⟩ := h; rfl) | (obtain ⟨_, _, _, _, _, _, _, _, rfl, _⟩ := h; rfl))
  · have hu := hu_of hr
    obtain ⟨t, bp, T0, rfl, h1, q⟩ := h
    obtain ⟨dx, bt, kr, kp, e1, e2, e3, e4, e5⟩ := h1.ex
    obtain ⟨qs, r1, r2⟩ := id e4
    refine ⟨_, (pss_one (ps_ret (pe_callTy call_list_of (by rfl) T.list boot_listT (pa_cons (pe_fld (pv 0) rfl) pa_nil)))), ?_⟩
    refine ⟨_, rfl, t, CT, dx, _, _, rfl, e1, T.clT, T.nT.2.2.2.1, tfl_rows, _, _, rfl, .inl (SqL.of r1), fun l hl => ?_⟩
    exact q l _ ⟨hl, same_new hl⟩ ⟨qs, upd_same, Paired.mapP r2 fun _ _ z => same_new hl _ _ z⟩
theorem sc_Table_pieces : FnScope ["self"] ["self"] (defScope (inClass (top 42) 3)) := ⟨rfl, rfl, rfl, by decide +kernel, rfl, by decide +kernel, by decide +kernel⟩
theorem ok_Table_pieces (T : Txt K mg CT CF) (h0 : HereM K CT "pieces" "Table.pieces" (inClass (top 42) 3))  : MetC P w K mg base 1 CT "pieces" (spPieces CT) := by
  refine met_of h0 sc_Table_pieces (fun _ _ _ _ _ _ us hl => match us, hl with | [_], _ => rfl) (fun vs H Q E h => ?_) (fun f cdv A outer s H vs Q E hr h => ?_)
  · (first | (obtain ⟨_, rfl, _⟩ := h; rfl) | (obtain ⟨_, _, rfl, _⟩ := h; rfl) | (obtain ⟨_, _, _, rfl, _⟩ := h; rfl) | (obtain ⟨_, _, _, _, rfl, _⟩ := h; rfl) | (obtain ⟨_, _, _, _, _, rfl, _⟩ := h; rfl) | (obtain ⟨_, _, _, _, _, _, rfl, _⟩ := h; rfl) | (obtain ⟨_, _, _, _, _, _, _, rfl, _⟩ := h; rfl) | (obtain ⟨_, _, _, _, _, _, _, _, rfl, _⟩ := h; rfl))
  · have hu := hu_of hr
    obtain ⟨t, bp, T0, rfl, h1, q⟩ := h
    obtain ⟨dx, bt, kr, kp, e1, e2, e3, e4, e5⟩ := h1.ex
    refine ⟨_, (pss_one (ps_ret (pe_callTy call_list_of (by rfl) T.list boot_listT (pa_cons (pe_fld (pv 0) rfl) pa_nil)))), ?_⟩
    refine ⟨_, rfl, t, CT, dx, _, _, rfl, e1, T.clT, T.nT.2.2.2.2, tfl_pieces, _, _, rfl, .inl (SqL.of e5), fun l hl => ?_⟩
    exact q l _ ⟨hl, same_new hl⟩ upd_same
theorem sc_Table_which : FnScope ["self", "thing"] ["self", "thing"] (defScope (inClass (top 42) 4)) := ⟨rfl, rfl, rfl, by decide +kernel, rfl, by decide +kernel, by decide +kernel⟩
theorem ok_Table_which (T : Txt K mg CT CF) (h0 : HereM K CT "which" "Table.which" (inClass (top 42) 4))  : MetC P w K mg base 1 CT "which" (spWhich CT) := by
  refine met_of h0 sc_Table_which (fun _ _ _ _ _ _ us hl => match us, hl with | [_, _], _ => rfl) (fun vs H Q E h => ?_) (fun f cdv A outer s H vs Q E hr h => ?_)
  · (first | (obtain ⟨_, rfl, _⟩ := h; rfl) | (obtain ⟨_, _, rfl, _⟩ := h; rfl) | (obtain ⟨_, _, _, rfl, _⟩ := h; rfl) | (obtain ⟨_, _, _, _, rfl, _⟩ := h; rfl) | (obtain ⟨_, _, _, _, _, rfl, _⟩ := h; rfl) | (obtain ⟨_, _, _, _, _, _, rfl, _⟩ := h; rfl) | (obtain ⟨_, _, _, _, _, _, _, rfl, _⟩ := h; rfl) | (obtain ⟨_, _, _, _, _, _, _, _, rfl, _⟩ := h; rfl))
  · have hu := hu_of hr
    obtain ⟨t, bp, T0, u, rfl, h1, q⟩ := h
    obtain ⟨dx, bt, kr, kp, e1, e2, e3, e4, e5⟩ := h1.ex
    refine ⟨_, (pss_cons (ps_if (pt_not (pt_val (pe_isi (by rfl) T.isinstance (by rfl) T.str boot_strT (pv 1)))) (pss_one (ps_ret pe_non)) pss_nil)
      (pss_one (ps_ret (pe_dget1 hu (pe_fld (pv 0) rfl) (pv 1) ⟨rfl, rfl, rfl, rfl⟩)))), ?_⟩
    refine ⟨_, rfl, _, "str", true, rfl, .base (.str _), by decide +kernel, _, rfl, iteF ?_⟩
    refine ⟨_, rfl, t, CT, dx, _, _, rfl, e1, T.clT, T.nT.2.1, tfl_text, bt, rfl, .inl ⟨_, .of e2⟩, _, rfl, _, DGet.k (k := Sum.inr (S u)) e2, ?_⟩
    rw [val_byT]
    by_cases hm : u ∈ T0.pieces
    · rw [if_pos hm] at q ⊢; exact q
    · rw [if_neg hm] at q ⊢; exact q
end
end JR
namespace JR
open PySem PySem.Spec PyProof.Rows L2 SX
section
variable {P : Program} {w : World} {K : PySem.W.Frag} {mg : Str → Option Value} {base : Heap} {CT CF : Addr}
theorem sc_Table_parts : FnScope ["self", "piece", "number"] ["self", "piece"] (defScope (inClass (top 42) 6)) := ⟨rfl, rfl, rfl, by decide +kernel, rfl, by decide +kernel, by decide +kernel⟩
theorem ok_Table_parts (T : Txt K mg CT CF) (h0 : HereM K CT "parts" "Table.parts" (inClass (top 42) 6)) (m_which : MetC P w K mg base 1 CT "which" (spWhich CT)) : MetC P w K mg base 2 CT "parts" (spParts CT) := by
  refine met_of h0 sc_Table_parts (fun _ _ _ _ _ _ us hl => match us, hl with | [_, _], _ => rfl) (fun vs H Q E h => ?_) (fun f cdv A outer s H vs Q E hr h => ?_)
  · (first | (obtain ⟨_, rfl, _⟩ := h; rfl) | (obtain ⟨_, _, rfl, _⟩ := h; rfl) | (obtain ⟨_, _, _, rfl, _⟩ := h; rfl) | (obtain ⟨_, _, _, _, rfl, _⟩ := h; rfl) | (obtain ⟨_, _, _, _, _, rfl, _⟩ := h; rfl) | (obtain ⟨_, _, _, _, _, _, rfl, _⟩ := h; rfl) | (obtain ⟨_, _, _, _, _, _, _, rfl, _⟩ := h; rfl) | (obtain ⟨_, _, _, _, _, _, _, _, rfl, _⟩ := h; rfl))
  · have hu := hu_of hr
    obtain ⟨t, bp, T0, p, rfl, h1, hp, q1, q2⟩ := h
    obtain ⟨dx, bt, kr, kp, e1, e2, e3, e4, e5⟩ := h1.ex
    obtain ⟨qs, r1, r2⟩ := id e4
    refine ⟨_, (pss_cons (ps_set (i := 2) sc_Table_parts.nd rfl (Or.inl rfl) (pmt m_which hr (by decide) (pv 0) (pa_cons (pv 1) pa_nil)))
      (pss_cons (ps_ifF (pt_cmpR op_isN (pv 2) pe_non (nomark _)))
      (pss_cons (ps_if (pt_cmpR op_lt (pv 2) (pe_callB call_len_str (by rfl) T.len PySem.boot_len (pa_cons (pe_fld (pv 0) rfl) pa_nil)) (nomark _)) (pss_one (ps_ret pe_non)) pss_nil)
      (pss_one (ps_ret (pe_ix ix_list (pe_fld (pv 0) rfl) (pe_op op_sub (pv 2) (pe_callB call_len_str (by rfl) T.len PySem.boot_len (pa_cons (pe_fld (pv 0) rfl) pa_nil))) (fun _ _ => rfl))))))), ?_⟩
    refine ⟨_, rfl, t, dx, _, rfl, e1, tfl_no (by decide +kernel), _, rfl, t, bp, T0, p, rfl, h1, ?_⟩
    rw [if_pos hp]
    refine ⟨_, rfl, rfl, _, rfl, rfl, ?_⟩
    refine ⟨_, rfl, _, rfl, t, CT, dx, _, _, rfl, e1, T.clT, T.nT.1, tfl_signs, _, rfl, small (by rw [len_S]; have := h1.ns.2; omega), _, _, rfl, rfl, _, rfl, ?_⟩
    rw [len_S]
    refine ite2 (fun hl => ?_) (fun hl => ?_)
    · have hl' : T0.num p < T0.signs.length := by have := of_decide_eq_true hl; omega
      refine q1 ?_
      unfold Tab.parts; rw [if_pos hl']
    · have hl' : ¬ T0.num p < T0.signs.length := fun z => hl (decide_eq_true (by omega))
      have hn : T0.num p < T0.pieces.length := List.idxOf_lt_length_of_mem hp
      have hk : T0.num p - T0.signs.length < T0.rows.length := by rw [len_pieces] at hn; omega
      have er : T0.rows[T0.num p - T0.signs.length]? = some T0.rows[T0.num p - T0.signs.length] := List.getElem?_eq_getElem hk
      obtain ⟨qa, hq1, hq2⟩ := pair_get r2 er
      have hpar : T0.parts p = some T0.rows[T0.num p - T0.signs.length] := by unfold Tab.parts; rw [if_neg hl', er]
      refine ⟨_, rfl, t, CT, dx, _, _, rfl, e1, T.clT, T.nT.2.2.2.1, tfl_rows, _, rfl, _, rfl, t, CT, dx, _, _, rfl, e1, T.clT, T.nT.1, tfl_signs, _, rfl, small (by rw [len_S]; have := h1.ns.2; omega), _, _, rfl, rfl, kr, _, _, V.ref qa, rfl, rfl, SqL.of r1, ?_, ?_⟩
      · rw [len_S, show ((T0.num p : Nat) : Int) - ((T0.signs.length : Nat) : Int) = ((T0.num p - T0.signs.length : Nat) : Int) by omega]
        exact atI_nat (by rw [List.getElem?_map, hq1]; rfl)
      · exact q2 qa _ hpar hq2
theorem sc_Table_rank : FnScope ["self", "left", "right"] ["self", "left", "right"] (defScope (inClass (top 42) 7)) := ⟨rfl, rfl, rfl, by decide +kernel, rfl, by decide +kernel, by decide +kernel⟩
theorem ok_Table_rank (T : Txt K mg CT CF) (h0 : HereM K CT "rank" "Table.rank" (inClass (top 42) 7))  : MetC P w K mg base 1 CT "rank" (spRank CT) := by
  refine met_of h0 sc_Table_rank (fun _ _ _ _ _ _ us hl => match us, hl with | [_, _, _], _ => rfl) (fun vs H Q E h => ?_) (fun f cdv A outer s H vs Q E hr h => ?_)
  · (first | (obtain ⟨_, rfl, _⟩ := h; rfl) | (obtain ⟨_, _, rfl, _⟩ := h; rfl) | (obtain ⟨_, _, _, rfl, _⟩ := h; rfl) | (obtain ⟨_, _, _, _, rfl, _⟩ := h; rfl) | (obtain ⟨_, _, _, _, _, rfl, _⟩ := h; rfl) | (obtain ⟨_, _, _, _, _, _, rfl, _⟩ := h; rfl) | (obtain ⟨_, _, _, _, _, _, _, rfl, _⟩ := h; rfl) | (obtain ⟨_, _, _, _, _, _, _, _, rfl, _⟩ := h; rfl))
  · have hu := hu_of hr
    obtain ⟨t, bp, T0, x, y, rfl, h1, q⟩ := h
    obtain ⟨dx, bt, kr, kp, e1, e2, e3, e4, e5⟩ := h1.ex
    refine ⟨_, (pss_cons (ps_if (PW.pt (pw_or (pt_not (pt_val (pe_isi (by rfl) T.isinstance (by rfl) T.str boot_strT (pv 1)))) (pw_or1 (pt_not (pt_val (pe_isi (by rfl) T.isinstance (by rfl) T.str boot_strT (pv 2))))))) (pss_one (ps_ret pe_non)) pss_nil)
      (pss_one (ps_ret (pe_dget1 hu (pe_fld (pv 0) rfl) (pe_tup (pa_cons (pv 1) (pa_cons (pv 2) pa_nil))) ⟨rfl, rfl, rfl, rfl⟩)))), ?_⟩
    refine ⟨_, rfl, _, "str", true, rfl, .base (.str _), by decide +kernel, _, rfl, iteF ?_⟩
    refine ⟨_, rfl, _, "str", true, rfl, .base (.str _), by decide +kernel, _, rfl, iteF ?_⟩
    refine ⟨_, rfl, t, CT, dx, _, _, rfl, e1, T.clT, T.nT.2.2.1, tfl_pair, bp, rfl, .inr ⟨_, .of e3⟩, _, rfl, _, rfl, by show 2 ≤ sizeLine; decide, fun z hz => ?_⟩
    refine ⟨_, DGet.t (k := kP x y) ((same_new hz) _ _ e3) upd_same, ?_⟩
    rw [val_byP]
    have := q _ (same_new (o := .tup [vS x, vS y]) hz)
    cases hr' : T0.rank x y with
    | none => rw [hr'] at this; exact this
    | some n => rw [hr'] at this; exact this
theorem sc_is_whole : FnScope ["thing"] ["thing"] (defScope (top 10)) := ⟨rfl, rfl, rfl, by decide +kernel, rfl, by decide +kernel, by decide +kernel⟩
theorem ok_is_whole (T : Txt K mg CT CF) (h0 : Here K mg "is_whole" (top 10))  : DefC P w K mg base 1 "is_whole" (spWhole) := by
  refine def_of h0 sc_is_whole (fun _ _ _ _ _ _ us hl => match us, hl with | [_], _ => rfl) (fun vs H Q E h => ?_) (fun f cdv A outer s H vs Q E hr h => ?_)
  · (first | (obtain ⟨_, rfl, _⟩ := h; rfl) | (obtain ⟨_, _, rfl, _⟩ := h; rfl) | (obtain ⟨_, _, _, rfl, _⟩ := h; rfl) | (obtain ⟨_, _, _, _, rfl, _⟩ := h; rfl) | (obtain ⟨_, _, _, _, _, rfl, _⟩ := h; rfl) | (obtain ⟨_, _, _, _, _, _, rfl, _⟩ := h; rfl) | (obtain ⟨_, _, _, _, _, _, _, rfl, _⟩ := h; rfl) | (obtain ⟨_, _, _, _, _, _, _, _, rfl, _⟩ := h; rfl))
  · have hu := hu_of hr
    obtain ⟨i, rfl, q⟩ := h
    refine ⟨_, (pss_one (ps_ret (pe_and (pe_isi (by rfl) T.isinstance (by rfl) T.int boot_intT (pv 0)) (pe_one (pe_not (pe_isi (by rfl) T.isinstance (by rfl) T.bool boot_boolT (pv 0))))))), ?_⟩
    exact ⟨_, rfl, _, "int", true, rfl, .base (.int _), by decide +kernel, _, rfl, iteT ⟨_, rfl, _, "int", false, rfl, .base (.int _), by decide +kernel, _, rfl, q⟩⟩
theorem sc_is_sign : FnScope ["thing"] ["thing"] (defScope (top 39)) := ⟨rfl, rfl, rfl, by decide +kernel, rfl, by decide +kernel, by decide +kernel⟩
theorem ok_is_sign (T : Txt K mg CT CF) (h0 : Here K mg "is_sign" (top 39))  : DefC P w K mg base 1 "is_sign" (spIsSign) := by
  refine def_of h0 sc_is_sign (fun _ _ _ _ _ _ us hl => match us, hl with | [_], _ => rfl) (fun vs H Q E h => ?_) (fun f cdv A outer s H vs Q E hr h => ?_)
  · (first | (obtain ⟨_, rfl, _⟩ := h; rfl) | (obtain ⟨_, _, rfl, _⟩ := h; rfl) | (obtain ⟨_, _, _, rfl, _⟩ := h; rfl) | (obtain ⟨_, _, _, _, rfl, _⟩ := h; rfl) | (obtain ⟨_, _, _, _, _, rfl, _⟩ := h; rfl) | (obtain ⟨_, _, _, _, _, _, rfl, _⟩ := h; rfl) | (obtain ⟨_, _, _, _, _, _, _, rfl, _⟩ := h; rfl) | (obtain ⟨_, _, _, _, _, _, _, _, rfl, _⟩ := h; rfl))
  · have hu := hu_of hr
    obtain ⟨c, rfl, hc, q⟩ := h
    refine ⟨_, (pss_one (ps_ret (pe_and (pe_isi (by rfl) T.isinstance (by rfl) T.str boot_strT (pv 0)) (pe_and (pe_cmpR op_eq (pe_callB call_len_str (by rfl) T.len PySem.boot_len (pa_cons (pv 0) pa_nil)) pe_int (nomark _)) (pe_one (pe_cmpR op_in_sign (pv 0) (C8.pe_gc rfl T.SIGNS) rfl)))))), ?_⟩
    refine ⟨_, rfl, _, "str", true, rfl, .base (.str _), by decide +kernel, _, rfl, iteT ?_⟩
    refine ⟨_, rfl, _, rfl, small (by rw [len_S]; simp), rfl, _, ?_, iteT ?_⟩
    · rw [len_S]; rfl
    refine ⟨_, rfl, c, _, rfl, rfl, ?_⟩
    rw [show decide (c ∈ signsText.cps.toList) = true from decide_eq_true hc]
    exact q
theorem sc_is_row : FnScope ["by_text", "thing", "left", "right"] ["by_text", "thing"] (defScope (top 41)) := ⟨rfl, rfl, rfl, by decide +kernel, rfl, by decide +kernel, by decide +kernel⟩
theorem ok_is_row (T : Txt K mg CT CF) (h0 : Here K mg "is_row" (top 41))  : DefC P w K mg base 1 "is_row" (spIsRow) := by
  refine def_of h0 sc_is_row (fun _ _ _ _ _ _ us hl => match us, hl with | [_, _], _ => rfl) (fun vs H Q E h => ?_) (fun f cdv A outer s H vs Q E hr h => ?_)
  · (first | (obtain ⟨_, rfl, _⟩ := h; rfl) | (obtain ⟨_, _, rfl, _⟩ := h; rfl) | (obtain ⟨_, _, _, rfl, _⟩ := h; rfl) | (obtain ⟨_, _, _, _, rfl, _⟩ := h; rfl) | (obtain ⟨_, _, _, _, _, rfl, _⟩ := h; rfl) | (obtain ⟨_, _, _, _, _, _, rfl, _⟩ := h; rfl) | (obtain ⟨_, _, _, _, _, _, _, rfl, _⟩ := h; rfl) | (obtain ⟨_, _, _, _, _, _, _, _, rfl, _⟩ := h; rfl))
  · have hu := hu_of hr
    obtain ⟨d, qa, ps, r, rfl, hd, hq, m1, m2, hl, hn, q⟩ := h
    refine ⟨_, (pss_cons (ps_if (PW.pt (pw_or (pt_not (pt_val (pe_isi (by rfl) T.isinstance (by rfl) T.tuple boot_tupleT (pv 1)))) (pw_or1 (pt_cmpR op_ne (pe_callB call_len_seq (by rfl) T.len PySem.boot_len (pa_cons (pv 1) pa_nil)) pe_int (nomark _))))) (pss_one (ps_ret pe_bl)) pss_nil)
      (pss_cons (ps_asg (pv 1) (pg_tup rfl (pgs_cons (pg_name (i := 2) sc_is_row.nd rfl (Or.inl rfl)) (pgs_cons (pg_name (i := 3) sc_is_row.nd rfl (Or.inl rfl)) pgs_nil))))
      (pss_cons (ps_if (PW.pt (pw_or (pt_not (pt_val (pe_isi (by rfl) T.isinstance (by rfl) T.str boot_strT (pv 2)))) (pw_or1 (pt_not (pt_val (pe_isi (by rfl) T.isinstance (by rfl) T.str boot_strT (pv 3))))))) (pss_one (ps_ret pe_bl)) pss_nil)
      (pss_cons (ps_if (PW.pt (pw_or (pt_cmp (pc_dnotin hu (pv 2) (pv 0))) (pw_or1 (pt_cmp (pc_dnotin hu (pv 3) (pv 0)))))) (pss_one (ps_ret pe_bl)) pss_nil)
      (pss_one (ps_ret (pe_and (pe_cmpR op_le (pe_op op_add (pe_callB call_len_str (by rfl) T.len PySem.boot_len (pa_cons (pv 2) pa_nil)) (pe_callB call_len_str (by rfl) T.len PySem.boot_len (pa_cons (pv 3) pa_nil))) (C8.pe_gc rfl T.MOST_LENGTH) (nomark _)) (pe_one (pe_cmp (pc_dnotin hu (pe_op op_add_str (pv 2) (pv 3)) (pv 0))))))))))), ?_⟩
    refine ⟨_, rfl, _, "tuple", true, rfl, .base (.tup hq), by decide +kernel, _, rfl, iteF ?_⟩
    refine ⟨_, rfl, qa, _, rfl, .inr (SqT.of hq), rfl, _, rfl, iteF ?_⟩
    refine ⟨_, rfl, qa, _, rfl, SqT.of hq, rfl, _, _, rfl, _, _, rfl, rfl, ?_⟩
    refine ⟨_, rfl, _, "str", true, rfl, .base (.str _), by decide +kernel, _, rfl, iteF ?_⟩
    refine ⟨_, rfl, _, "str", true, rfl, .base (.str _), by decide +kernel, _, rfl, iteF ?_⟩
    refine ⟨_, rfl, _, rfl, d, _, rfl, DGet.k (k := Sum.inr (S r.1)) hd, _, rfl, ?_⟩
    rw [val_byT, if_pos m1]
    refine iteF ?_
    refine ⟨_, rfl, _, rfl, d, _, rfl, DGet.k (k := Sum.inr (S r.2)) hd, _, rfl, ?_⟩
    rw [val_byT, if_pos m2]
    refine iteF ?_
    have hl' : r.1.length + r.2.length ≤ 16 := by unfold jn at hl; rw [List.length_append] at hl; exact hl
    refine ⟨_, rfl, _, rfl, small (by rw [len_S]; omega), _, rfl, _, rfl, small (by rw [len_S]; omega), _, _, rfl, rfl, _, _, rfl, rfl, _, rfl, ?_⟩
    rw [len_S, len_S, show decide (((r.1.length : Nat) : Int) + ((r.2.length : Nat) : Int) ≤ 16) = true from decide_eq_true (by omega)]
    refine iteT ?_
    refine ⟨_, rfl, _, rfl, _, _, rfl, rfl, small (by rw [len_S, len_S]; omega), ?_⟩
    refine ⟨_, rfl, d, _, rfl, DGet.k (k := Sum.inr (S r.1 ++ S r.2)) hd, ?_⟩
    rw [S_cat, val_byT, if_neg (show r.1 ++ r.2 ∉ ps from hn)]
    exact q
theorem sc_look_at_signs : FnScope ["signs", "place", "sign"] ["signs"] (defScope (top 40)) := ⟨rfl, rfl, rfl, by decide +kernel, rfl, by decide +kernel, by decide +kernel⟩
theorem ok_look_at_signs (T : Txt K mg CT CF) (h0 : Here K mg "look_at_signs" (top 40)) (d_is_sign : DefC P w K mg base 1 "is_sign" (spIsSign)) : DefC P w K mg base 2 "look_at_signs" (spLookSigns) := by
  refine def_of h0 sc_look_at_signs (fun _ _ _ _ _ _ us hl => match us, hl with | [_], _ => rfl) (fun vs H Q E h => ?_) (fun f cdv A outer s H vs Q E hr h => ?_)
  · (first | (obtain ⟨_, rfl, _⟩ := h; rfl) | (obtain ⟨_, _, rfl, _⟩ := h; rfl) | (obtain ⟨_, _, _, rfl, _⟩ := h; rfl) | (obtain ⟨_, _, _, _, rfl, _⟩ := h; rfl) | (obtain ⟨_, _, _, _, _, rfl, _⟩ := h; rfl) | (obtain ⟨_, _, _, _, _, _, rfl, _⟩ := h; rfl) | (obtain ⟨_, _, _, _, _, _, _, rfl, _⟩ := h; rfl) | (obtain ⟨_, _, _, _, _, _, _, _, rfl, _⟩ := h; rfl))
  · have hu := hu_of hr
    obtain ⟨u, rfl, hs, q⟩ := h
    refine ⟨_, (pss_cons (ps_ifF (PW.pt (pw_or (pt_not (pt_val (pe_isi (by rfl) T.isinstance (by rfl) T.str boot_strT (pv 0)))) (pw_or1 (pt_not (pt_chain op_le op_le pe_int (pe_callB call_len_str (by rfl) T.len PySem.boot_len (pa_cons (pv 0) pa_nil)) (C8.pe_gc rfl T.MOST_SIGNS)))))))
      (pss_one (ps_for PassesOwn.never rfl (pi_enumS (by rfl) T.enumerate (pa_cons (pv 0) pa_nil)) (pg_tup rfl (pgs_cons (pg_name (i := 1) sc_look_at_signs.nd rfl (Or.inl rfl)) (pgs_cons (pg_name (i := 2) sc_look_at_signs.nd rfl (Or.inl rfl)) pgs_nil))) (pss_one (ps_ifF (PW.pt (pw_or (pt_not (pt_val (pcl d_is_sign hr (by decide) (by rfl) (pa_cons (pv 2) pa_nil)))) (pw_or1 (pt_cmpR op_in_sign (pv 2) (pe_slice sl_str (pv 0) po_none (po_some (pv 1))) rfl))))))))), ?_⟩
    refine ⟨_, rfl, _, "str", true, rfl, .base (.str _), by decide +kernel, _, rfl, iteF ?_⟩
    refine ⟨_, rfl, _, rfl, small (by rw [len_S]; have := hs.2.2.2; omega), _, _, rfl, rfl, _, rfl, ?_⟩
    rw [len_S, show decide ((1 : Int) ≤ ((u.length : Nat) : Int)) = true from decide_eq_true (by have := hs.2.2.1; omega)]
    refine iteT ⟨_, _, rfl, rfl, _, rfl, ?_⟩
    rw [show decide (((u.length : Nat) : Int) ≤ (12 : Int)) = true from decide_eq_true (by have := hs.2.2.2; omega)]
    refine ⟨rfl, ?_⟩
    refine ⟨_, rfl, S u, rfl, for_it walk_enumS (fun i σ' H' => (∃ x1 x2, σ' = [some (vS u), x1, x2]) ∧ Same H H') ⟨⟨_, _, rfl⟩, Same.refl H⟩ (fun _ _ _ _ _ => trivial) ?_ ?_⟩
    · rintro i x σ' H1 H2 hi ⟨⟨x1, x2, rfl⟩, s1⟩ ⟨Tt, c, rfl, nT, rfl, hc⟩
      have hcu : c ∈ u := List.mem_of_getElem? hc
      refine ⟨Tt, _, rfl, SqT.of upd_same, rfl, _, _, rfl, _, _, rfl, rfl, ?_⟩
      refine ⟨_, rfl, c, rfl, hs.2.1 c hcu, _, rfl, iteF ?_⟩
      refine ⟨_, rfl, _, rfl, _, rfl, _, rfl, _, rfl, small (by rw [len_S]; have := hs.2.2.2; omega), c, _, rfl, rfl, _, rfl, ?_⟩
      rw [cutS_to]
      refine ⟨decide_eq_false (nodup_take_no hs.1 hc), ⟨_, _, rfl⟩, s1.trans (same_new nT)⟩
    · rintro σ' H' ⟨_, s1⟩
      exact q H' s1
theorem sc_Table_longest : FnScope ["self", "piece"] ["self"] (defScope (inClass (top 42) 8)) := ⟨rfl, rfl, rfl, by decide +kernel, rfl, by decide +kernel, by decide +kernel⟩
theorem ok_Table_longest (T : Txt K mg CT CF) (h0 : HereM K CT "longest" "Table.longest" (inClass (top 42) 8))  : MetC P w K mg base 1 CT "longest" (spLongest CT) := by
  refine met_of h0 sc_Table_longest (fun _ _ _ _ _ _ us hl => match us, hl with | [_], _ => rfl) (fun vs H Q E h => ?_) (fun f cdv A outer s H vs Q E hr h => ?_)
  · (first | (obtain ⟨_, rfl, _⟩ := h; rfl) | (obtain ⟨_, _, rfl, _⟩ := h; rfl) | (obtain ⟨_, _, _, rfl, _⟩ := h; rfl) | (obtain ⟨_, _, _, _, rfl, _⟩ := h; rfl) | (obtain ⟨_, _, _, _, _, rfl, _⟩ := h; rfl) | (obtain ⟨_, _, _, _, _, _, rfl, _⟩ := h; rfl) | (obtain ⟨_, _, _, _, _, _, _, rfl, _⟩ := h; rfl) | (obtain ⟨_, _, _, _, _, _, _, _, rfl, _⟩ := h; rfl))
  · have hu := hu_of hr
    obtain ⟨t, bp, T0, rfl, h1, q⟩ := h
    obtain ⟨dx, bt, kr, kp, e1, e2, e3, e4, e5⟩ := h1.ex
    refine ⟨_, (pss_one (ps_ret (pe_callB (cr_max rfl) (by rfl) T.max boot_maxB (pa_cons (pe_lc (own := [("piece", 1)]) (by rfl) sc_Table_longest.nd (pi_list (pe_fld (pv 0) rfl)) (blkOk_by (own := [("piece", 1)]) (N := ["self", "piece"]) (sc := defScope (inClass (top 42) 8)) (by decide +kernel)) (fun _ _ _ _ _ => pg_name (i := 1) sc_Table_longest.nd rfl (Or.inl rfl)) (fun _ _ _ _ _ => pts_nil) (fun _ _ _ _ _ => (pe_callB call_len_str (by rfl) T.len PySem.boot_len (pa_cons (pv 1) pa_nil)))) pa_nil)))), ?_⟩
    refine ⟨_, rfl, t, CT, dx, _, _, rfl, e1, T.clT, T.nT.2.2.2.2, tfl_pieces, kp, rfl, ⟨_, SqL.of e5⟩, fun D hD => ?_⟩
    refine lc_list (xs := T0.pieces.map vS) (fun i H' => Same H H' ∧ H' D = some (.lst ((T0.pieces.take i).map fun p => V.int (p.length : Nat)))) ⟨same_new hD, upd_same⟩ (fun i H' _ p => SqL.of (p.1 _ _ e5)) ?_ ?_
    · rintro i x H' hx ⟨s1, hD'⟩
      obtain ⟨p, hp, rfl⟩ := get_vS hx
      have hpm := List.mem_of_getElem? hp
      have hlen := piece_len h1.ok p hpm
      refine ⟨rfl, ?_⟩
      refine ⟨_, rfl, _, rfl, small (by rw [len_S]; omega), _, hD', smallLt ?_, Same.mut s1 hD, ?_⟩
      · rw [List.length_map, List.length_take]; have := h1.len_pieces; omega
      · rw [upd_same, List.take_add_one, hp, len_S]; simp
    · rintro H' ⟨s1, hD'⟩
      refine ⟨D, T0.pieces.map (fun p => (p.length : Int)), rfl, SqL.of ?_, ?_, fun m hm hmax => ?_⟩
      · rw [hD', show T0.pieces.take (T0.pieces.map vS).length = T0.pieces by rw [List.length_map, List.take_length], List.map_map]; rfl
      · rw [List.length_map, len_pieces]; have := h1.ns.1; omega
      · obtain ⟨p, hp, rfl⟩ := List.mem_map.mp hm
        refine q _ H' s1 (fun p' hp' => ?_) (piece_len h1.ok p hp).2
        have := hmax _ (List.mem_map.mpr ⟨p', hp', rfl⟩)
        omega
end
end JR
namespace JR
open PySem PySem.Spec PyProof.Rows L2 SX
section
variable {P : Program} {w : World} {K : PySem.W.Frag} {mg : Str → Option Value} {base : Heap} {CT CF : Addr}
theorem sc_Table_init : FnScope ["self", "signs", "rows", "number", "sign", "rank", "row"] ["self", "signs", "rows"] (defScope (inClass (top 42) 0)) := ⟨rfl, rfl, rfl, by decide +kernel, rfl, by decide +kernel, by decide +kernel⟩
theorem ok_Table_init (T : Txt K mg CT CF) (h0 : HereI K mg "Table" CT "Table.__init__" (inClass (top 42) 0)) (d_is_row : DefC P w K mg base 1 "is_row" (spIsRow)) (d_look_at_signs : DefC P w K mg base 2 "look_at_signs" (spLookSigns)) : MakC P w K mg base 3 "Table" CT (spTInit CT) := by
  refine mak_of h0 sc_Table_init (fun _ _ _ _ _ _ us hl => match us, hl with | [_, _, _], _ => rfl) (fun vs H Q E h => ?_) (fun f cdv A outer s H vs Q E hr h => ?_)
  · (first | (obtain ⟨_, rfl, _⟩ := h; rfl) | (obtain ⟨_, _, rfl, _⟩ := h; rfl) | (obtain ⟨_, _, _, rfl, _⟩ := h; rfl) | (obtain ⟨_, _, _, _, rfl, _⟩ := h; rfl) | (obtain ⟨_, _, _, _, _, rfl, _⟩ := h; rfl) | (obtain ⟨_, _, _, _, _, _, rfl, _⟩ := h; rfl) | (obtain ⟨_, _, _, _, _, _, _, rfl, _⟩ := h; rfl) | (obtain ⟨_, _, _, _, _, _, _, _, rfl, _⟩ := h; rfl))
  · have hu := hu_of hr
    obtain ⟨x, T0, a, dx, rfl, hx, ht, hra, q⟩ := h
    obtain ⟨qs, hq1, hq2⟩ := id hra
    have lqs : qs.length = T0.rows.length := Paired.length hq2
    have nr := ht.nr
    have hsg := ht.sg
    refine ⟨_, (pss_cons (ps_expr (pcl d_look_at_signs hr (by decide) (by rfl) (pa_cons (pv 1) pa_nil)))
      (pss_cons (ps_ifF (PW.pt (pw_or (pt_not (pt_val (pe_isi (by rfl) T.isinstance (by rfl) T.list boot_listT (pv 2)))) (pw_or1 (pt_cmpR op_gt (pe_callB call_len_seq (by rfl) T.len PySem.boot_len (pa_cons (pv 2) pa_nil)) (C8.pe_gc rfl T.MOST_ROWS) (nomark _))))))
      (pss_cons (ps_fld (pv 0) (pv 1) rfl)
      (pss_cons (ps_fld (pv 0) pe_dnewK rfl)
      (pss_cons (ps_for PassesOwn.never rfl (pi_enumS (by rfl) T.enumerate (pa_cons (pv 1) pa_nil)) (pg_tup rfl (pgs_cons (pg_name (i := 3) sc_Table_init.nd rfl (Or.inl rfl)) (pgs_cons (pg_name (i := 4) sc_Table_init.nd rfl (Or.inl rfl)) pgs_nil))) (pss_one (ps_dput hu (pe_fld (pv 0) rfl) (pv 4) (pv 3) rfl)))
      (pss_cons (ps_fld (pv 0) pe_dnewT rfl)
      (pss_cons (ps_for PassesOwn.never rfl (pi_enum (by rfl) T.enumerate (pa_cons (pv 2) pa_nil)) (pg_tup rfl (pgs_cons (pg_name (i := 5) sc_Table_init.nd rfl (Or.inl rfl)) (pgs_cons (pg_name (i := 6) sc_Table_init.nd rfl (Or.inl rfl)) pgs_nil))) (pss_cons (ps_ifF (pt_not (pt_val (pcl d_is_row hr (by decide) (by rfl) (pa_cons (pe_fld (pv 0) rfl) (pa_cons (pv 6) pa_nil))))))
      (pss_cons (ps_dput hu (pe_fld (pv 0) rfl) (pv 6) (pv 5) rfl)
      (pss_one (ps_dput hu (pe_fld (pv 0) rfl) (pe_op op_add_str (pe_ix ix_tup (pv 6) pe_int (fun _ _ => rfl)) (pe_ix ix_tup (pv 6) pe_int (fun _ _ => rfl))) (pe_op op_add (pe_callB call_len_str (by rfl) T.len PySem.boot_len (pa_cons (pv 1) pa_nil)) (pv 5)) rfl)))))
      (pss_cons (ps_fld (pv 0) (pe_callTy call_list_of (by rfl) T.list boot_listT (pa_cons (pv 2) pa_nil)) rfl)
      (pss_one (ps_fld (pv 0) (pe_callTy (call_list_dK rfl) (by rfl) T.list boot_listT (pa_cons (pe_fld (pv 0) rfl) pa_nil)) rfl)))))))))), ?_⟩
    refine ⟨_, rfl, T0.signs, rfl, hsg, fun H1 s1 => ?_⟩
    have hq1' := s1 _ _ hq1
    refine ⟨_, rfl, _, "list", true, rfl, .base (.lst hq1'), by decide +kernel, _, rfl, iteF ?_⟩
    refine ⟨_, rfl, a, _, rfl, .inl (SqL.of hq1'), _, _, rfl, rfl, _, rfl, ?_⟩
    refine ⟨decide_eq_false (by rw [List.length_map, lqs]; omega), ?_⟩
    -- self.kept_signs = signs; self.by_text = {}
    refine ⟨_, rfl, _, rfl, x, CT, dx, [], rfl, s1 _ _ hx, T.clT, T.nT.1, (by show 0 < 1000; decide), ?_⟩
    intro bt hbt
    have xbt : x ≠ bt := ne_of_none upd_same hbt
    have hbt1 : H1 bt = none := by rw [upd_ne xbt.symm] at hbt; exact hbt
    have hbt0 : H bt = none := s1.free hbt1
    refine ⟨_, rfl, x, CT, dx, _, rfl, (by rw [upd_ne xbt]; exact upd_same), T.clT, T.nT.2.1, (by show 1 < 1000; decide), ?_⟩
    -- for number, sign in enumerate(signs)
    refine ⟨_, rfl, S T0.signs, rfl, for_it walk_enumS (fun i σ' H' => (∃ x1 x2 x3 x4, σ' = [some (V.ref x), some (vS T0.signs), some (V.ref a), x1, x2, x3, x4]) ∧ But x H H' ∧ H' x = some (.ins CT dx (putF "by_text" (.ref bt) (putF "kept_signs" (vS T0.signs) []))) ∧ H' bt = some (.dK (byT (sg (T0.signs.take i)))))
      ⟨⟨_, _, _, _, rfl⟩, ?_, upd_same, by rw [upd_ne xbt.symm, upd_same]; rfl⟩ (fun _ _ _ _ _ => trivial) ?_ ?_⟩
    · intro b o hb hbo
      rw [upd_ne hb, upd_ne (ne_of_none hbo hbt0), upd_ne hb]
      exact s1 _ _ hbo
    · rintro i y σ' H2 H3 hi ⟨⟨x1, x2, x3, x4, rfl⟩, b2, hx2, hb2⟩ ⟨Tt, c, rfl, nT, rfl, hc⟩
      have hTx : x ≠ Tt := ne_of_none hx2 nT
      have hTb : bt ≠ Tt := ne_of_none hb2 nT
      have nT0 : H Tt = none := by
        cases e : H Tt with
        | none => rfl
        | some o => rw [b2 Tt o (Ne.symm hTx) e] at nT; cases nT
      refine ⟨Tt, _, rfl, SqT.of upd_same, rfl, _, _, rfl, _, _, rfl, rfl, ?_⟩
      have hno : [c] ∉ sg (T0.signs.take i) := fun hm => by
        obtain ⟨e, he, e2⟩ := List.mem_map.mp hm
        have : e = c := by simpa using e2
        rw [this] at he
        exact nodup_take_no hsg.1 hc he
      have hli : (sg (T0.signs.take i)).length = i := by rw [len_sg, List.length_take]; omega
      refine ⟨_, rfl, _, rfl, x, CT, dx, _, _, rfl, (by rw [upd_ne hTx]; exact hx2), T.clT, T.nT.2.1, (by rw [lookup_putF, if_pos rfl]), _, rfl, bt, _, rfl, DPut.k (k := Sum.inr (S [c])) (by rw [upd_ne hTb]; exact hb2) (by rw [len_byT, hli]; exact smallLt (by have := hsg.2.2.2; omega)), ?_⟩
      refine ⟨⟨_, _, _, _, rfl⟩, (b2.mut nT0).mut hbt0, by rw [upd_ne xbt, upd_ne hTx]; exact hx2, ?_⟩
      rw [upd_same]
      have e := byT_put hno
      rw [hli] at e
      rw [e, List.take_add_one, hc, show (some c).toList = [c] from rfl, sg_append]
      rfl
    · rintro σ' H2 ⟨⟨x1, x2, x3, x4, rfl⟩, b2, hx2, hb2⟩
      have bt_ne : ∀ b o, H b = some o → b ≠ bt := fun b o e => ne_of_none e hbt0
      -- self.by_pair = {}
      intro bp hbp
      have xbp : x ≠ bp := ne_of_none hx2 hbp
      have btbp : bt ≠ bp := ne_of_none hb2 hbp
      have hbp0 : H bp = none := by
        cases e : H bp with
        | none => rfl
        | some o => rw [b2 bp o xbp.symm e] at hbp; cases hbp
      refine ⟨_, rfl, x, CT, dx, _, rfl, (by rw [upd_ne xbp]; exact hx2), T.clT, T.nT.2.2.1, (by exact Nat.lt_of_le_of_lt (length_putF _ _ _) (by show 2 < 1000; decide)), ?_⟩
      -- for rank, row in enumerate(rows)
      have ax : a ≠ x := ne_of hq1 hx (by intro z; cases z)
      refine ⟨_, rfl, a, qs.map V.ref, rfl, SqL.of (by rw [upd_ne ax, upd_ne (ne_of_none hq1 hbp0)]; exact b2 _ _ ax hq1), for_it walk_enum (fun k σ' H' => (∃ y1 y2 y3 y4, σ' = [some (V.ref x), some (vS T0.signs), some (V.ref a), y1, y2, y3, y4]) ∧ But x H H' ∧ H' x = some (.ins CT dx (putF "by_pair" (.ref bp) (putF "by_text" (.ref bt) (putF "kept_signs" (vS T0.signs) [])))) ∧ H' bt = some (.dK (byT (T0.before k))) ∧ H' bp = some (.dT (byP (T0.rows.take k))))
        ⟨⟨_, _, _, _, rfl⟩, ?_, upd_same, ?_, ?_⟩ (fun _ _ _ _ p => SqL.of (p.2.1 _ _ ax hq1)) ?_ ?_⟩
      · exact But.trans (H1 := upd H2 bp (.dT [])) (b2.mut hbp0) but_upd
      · rw [upd_ne xbt.symm, upd_ne btbp, hb2, List.take_length]
        simp [Tab.before]
      · rw [upd_ne xbp.symm, upd_same]; rfl
      · rintro k y σ' H3 H4 hk ⟨⟨y1, y2, y3, y4, rfl⟩, b3, hx3, hb3, hp3⟩ ⟨Tt, v1, v2, rfl, nT, rfl, hv1, hv2⟩
        obtain rfl : V.int (k : Int) = v1 := Option.some.inj hv1
        rw [List.length_map, lqs] at hk
        obtain ⟨r, hr0⟩ : ∃ r, T0.rows[k]? = some r := ⟨_, List.getElem?_eq_getElem hk⟩
        obtain ⟨qa, hqa, hqt⟩ := pair_get hq2 hr0
        replace hv2 : (qs.map V.ref)[k]? = some v2 := hv2
        rw [List.getElem?_map, hqa] at hv2
        obtain rfl : V.ref qa = v2 := Option.some.inj hv2
        have hTx : x ≠ Tt := ne_of_none hx3 nT
        have hTb : bt ≠ Tt := ne_of_none hb3 nT
        have hTp : bp ≠ Tt := ne_of_none hp3 nT
        have nT0 : H Tt = none := by
          cases e : H Tt with
          | none => rfl
          | some o => rw [b3 Tt o hTx.symm e] at nT; cases nT
        have qx : qa ≠ x := ne_of hqt hx (by intro z; cases z)
        have qT : qa ≠ Tt := ne_of_none hqt nT0
        have qbt : qa ≠ bt := ne_of_none hqt hbt0
        have qbp : qa ≠ bp := ne_of_none hqt hbp0
        obtain ⟨m1, m2, m3, m4⟩ := ht.ok.row k r hr0
        have lb : (T0.before k).length = T0.signs.length + k := len_before (by omega)
        have lr : r.1.length + r.2.length ≤ 16 := by unfold jn at m4; rw [List.length_append] at m4; exact m4
        have lsg := hsg.2.2.2
        have hnr : r ∉ T0.rows.take k := fun hm => by
          obtain ⟨j, hj⟩ := List.mem_iff_getElem?.mp hm
          have hl := (List.getElem?_eq_some_iff.mp hj).1
          rw [List.length_take] at hl
          rw [List.getElem?_take_of_lt (by omega)] at hj
          have e1 := num_row ht.ok hj
          have e2 := num_row ht.ok hr0
          omega
        refine ⟨Tt, _, rfl, SqT.of upd_same, rfl, _, _, rfl, _, _, rfl, rfl, ?_⟩
        -- if not is_row(self.by_text, row): raise
        refine ⟨_, rfl, x, CT, dx, _, _, rfl, (by rw [upd_ne hTx]; exact hx3), T.clT, T.nT.2.1, (by rw [lookup_putF, if_neg (by decide +kernel), lookup_putF, if_pos rfl]), _, rfl, bt, qa, T0.before k, r, rfl, (by rw [upd_ne hTb]; exact hb3), (by rw [upd_ne qT]; exact b3 _ _ qx hqt), m1, m2, m4, m3, _, rfl, rfl, ?_⟩
        -- self.by_pair[row] = rank
        refine ⟨_, rfl, _, rfl, x, CT, dx, _, _, rfl, (by rw [upd_ne hTx]; exact hx3), T.clT, T.nT.2.2.1, (by rw [lookup_putF, if_pos rfl]), _, rfl, bp, _, rfl, DPut.t (k := kP r.1 r.2) (by rw [upd_ne hTp]; exact hp3) (by rw [upd_ne qT]; exact b3 _ _ qx hqt) (smallLt (by unfold byP; rw [len_byPF, List.length_take]; omega)), ?_⟩
        -- self.by_text[row[0] + row[1]] = len(signs) + rank
        have e7 : ∀ o1 o2, upd (upd H3 Tt o1) bp o2 qa = some (.tup [vS r.1, vS r.2]) := fun o1 o2 => by rw [upd_ne qbp, upd_ne qT]; exact b3 _ _ qx hqt
        refine ⟨_, rfl, _, rfl, small (by rw [len_S]; omega), _, rfl, _, _, rfl, rfl, _, rfl, x, CT, dx, _, _, rfl, (by rw [upd_ne xbp, upd_ne hTx]; exact hx3), T.clT, T.nT.2.1, (by rw [lookup_putF, if_neg (by decide +kernel), lookup_putF, if_pos rfl]), _, rfl, qa, _, _, vS r.1, rfl, rfl, SqT.of (e7 _ _), rfl, _, rfl, qa, _, _, vS r.2, rfl, rfl, SqT.of (e7 _ _), rfl, _, _, rfl, rfl, small (by rw [len_S, len_S]; omega), bt, _, rfl, DPut.k (k := Sum.inr (S r.1 ++ S r.2)) (by rw [upd_ne btbp, upd_ne hTb]; exact hb3) (smallLt (by rw [len_byT, lb]; omega)), ?_⟩
        refine ⟨⟨_, _, _, _, rfl⟩, ((b3.mut nT0).mut hbp0).mut hbt0, by rw [upd_ne xbt, upd_ne xbp, upd_ne hTx]; exact hx3, ?_, ?_⟩
        · rw [upd_same, before_succ hr0, S_cat, len_S]
          have e := byT_put m3
          rw [lb] at e
          have e2 : ((T0.signs.length : Nat) : Int) + (k : Int) = ((T0.signs.length + k : Nat) : Int) := by omega
          show some (HO.dK (putK (byT (T0.before k)) (Sum.inr (S (r.1 ++ r.2))) (V.int (((T0.signs.length : Nat) : Int) + (k : Int))))) = _
          rw [e2]
          exact congrArg (fun z => some (HO.dK z)) e
        · rw [upd_ne btbp.symm, upd_same]
          have e := byP_put hnr
          rw [List.length_take, Nat.min_eq_left (by omega)] at e
          rw [e, List.take_add_one, hr0]; rfl
      · rintro σ' H3 ⟨⟨y1, y2, y3, y4, rfl⟩, b3, hx3, hb3, hp3⟩
        rw [List.length_map, lqs] at hb3 hp3
        rw [List.take_length] at hp3
        rw [← pieces_all] at hb3
        have ha3 := b3 _ _ ax hq1
        -- self.kept_rows = list(rows)
        refine ⟨_, rfl, a, _, rfl, .inl (SqL.of ha3), fun kr hkr => ?_⟩
        have xkr : x ≠ kr := ne_of_none hx3 hkr
        have nkr : H kr = none := by
          cases e : H kr with
          | none => rfl
          | some o => rw [b3 kr o xkr.symm e] at hkr; cases hkr
        refine ⟨_, rfl, x, CT, dx, _, rfl, (by rw [upd_ne xkr]; exact hx3), T.clT, T.nT.2.2.2.1, (by refine Nat.lt_of_le_of_lt (length_putF _ _ _) (Nat.succ_lt_succ (Nat.lt_of_le_of_lt (length_putF _ _ _) (by show 2 < 999; decide)))), ?_⟩
        -- self.kept_pieces = list(self.by_text)
        have btkr : bt ≠ kr := ne_of_none hb3 hkr
        have bpkr : bp ≠ kr := ne_of_none hp3 hkr
        refine ⟨_, rfl, x, CT, dx, _, _, rfl, upd_same, T.clT, T.nT.2.1, (by rw [lookup_putF, if_neg (by decide +kernel), lookup_putF, if_neg (by decide +kernel), lookup_putF, if_pos rfl]), bt, _, rfl, (by rw [upd_ne xbt.symm, upd_ne btkr]; exact hb3), fun kp hkp => ?_⟩
        have xkp : x ≠ kp := ne_of_none upd_same hkp
        have hkp2 : upd H3 kr (.lst (qs.map V.ref)) kp = none := by rw [upd_ne xkp.symm] at hkp; exact hkp
        have krkp : kr ≠ kp := ne_of_none upd_same hkp2
        have hkp3 : H3 kp = none := by rw [upd_ne krkp.symm] at hkp2; exact hkp2
        have nkp : H kp = none := by
          cases e : H kp with
          | none => rfl
          | some o => rw [b3 kp o xkp.symm e] at hkp3; cases hkp3
        have btkp : bt ≠ kp := ne_of_none hb3 hkp3
        have bpkp : bp ≠ kp := ne_of_none hp3 hkp3
        refine ⟨_, rfl, x, CT, dx, _, rfl, (by rw [upd_ne xkp]; exact upd_same), T.clT, T.nT.2.2.2.2, (by refine Nat.lt_of_le_of_lt (length_putF _ _ _) (Nat.succ_lt_succ (Nat.lt_of_le_of_lt (length_putF _ _ _) (Nat.succ_lt_succ (Nat.lt_of_le_of_lt (length_putF _ _ _) (by show 2 < 998; decide)))))), ?_⟩
        refine q bp _ ?_ ⟨ht.ok, ⟨hsg.2.2.1, hsg.2.2.2⟩, nr, dx, bt, kr, kp, upd_same, ?_, ?_, ⟨qs, ?_, ?_⟩, ?_⟩
        · intro b o hb hbo
          rw [upd_ne hb, upd_ne (ne_of_none hbo nkp), upd_ne hb, upd_ne (ne_of_none hbo nkr)]
          exact b3 _ _ hb hbo
        · rw [upd_ne xbt.symm, upd_ne btkp, upd_ne xbt.symm, upd_ne btkr]; exact hb3
        · rw [upd_ne xbp.symm, upd_ne bpkp, upd_ne xbp.symm, upd_ne bpkr]; exact hp3
        · rw [upd_ne xkr.symm, upd_ne krkp, upd_ne xkr.symm, upd_same]
        · refine Paired.mapP hq2 fun qa r hqt => ?_
          have qx : qa ≠ x := ne_of hqt hx (by intro z; cases z)
          rw [upd_ne qx, upd_ne (ne_of_none hqt nkp), upd_ne qx, upd_ne (ne_of_none hqt nkr)]
          exact b3 _ _ qx hqt
        · rw [upd_ne xkp.symm, upd_same]
          exact congrArg (fun z => some (HO.lst z)) (keys_byTF T0.pieces 0)
end
end JR
namespace JR
open PySem PySem.Spec PyProof.Rows L2 SX
section
variable {P : Program} {w : World} {K : PySem.W.Frag} {mg : Str → Option Value} {base : Heap} {CT CF : Addr}
theorem sc_look_at_text : FnScope ["table", "text", "signs", "place", "sign"] ["table", "text"] (defScope (top 12)) := ⟨rfl, rfl, rfl, by decide +kernel, rfl, by decide +kernel, by decide +kernel⟩
theorem ok_look_at_text (T : Txt K mg CT CF) (h0 : Here K mg "look_at_text" (top 12)) (m_signs : MetC P w K mg base 1 CT "signs" (spSigns CT)) : DefC P w K mg base 2 "look_at_text" (spLookText CT) := by
  refine def_of h0 sc_look_at_text (fun _ _ _ _ _ _ us hl => match us, hl with | [_, _], _ => rfl) (fun vs H Q E h => ?_) (fun f cdv A outer s H vs Q E hr h => ?_)
  · (first | (obtain ⟨_, rfl, _⟩ := h; rfl) | (obtain ⟨_, _, rfl, _⟩ := h; rfl) | (obtain ⟨_, _, _, rfl, _⟩ := h; rfl) | (obtain ⟨_, _, _, _, rfl, _⟩ := h; rfl) | (obtain ⟨_, _, _, _, _, rfl, _⟩ := h; rfl) | (obtain ⟨_, _, _, _, _, _, rfl, _⟩ := h; rfl) | (obtain ⟨_, _, _, _, _, _, _, rfl, _⟩ := h; rfl) | (obtain ⟨_, _, _, _, _, _, _, _, rfl, _⟩ := h; rfl))
  · have hu := hu_of hr
    obtain ⟨t, bp, T0, u, rfl, h1, hu1, q⟩ := h
    refine ⟨_, (pss_cons (ps_ifF (pt_not (pt_val (pe_isi (by rfl) T.isinstance (by rfl) T.str boot_strT (pv 1)))))
      (pss_cons (ps_set (i := 2) sc_look_at_text.nd rfl (Or.inl rfl) (pmt0 m_signs hr (by decide) (pv 0)))
      (pss_one (ps_for PassesOwn.never rfl (pi_enumS (by rfl) T.enumerate (pa_cons (pv 1) pa_nil)) (pg_tup rfl (pgs_cons (pg_name (i := 3) sc_look_at_text.nd rfl (Or.inl rfl)) (pgs_cons (pg_name (i := 4) sc_look_at_text.nd rfl (Or.inl rfl)) pgs_nil))) (pss_one (ps_ifF (pt_cmpR op_notIn_sign (pv 4) (pv 2) rfl))))))), ?_⟩
    refine ⟨_, rfl, _, "str", true, rfl, .base (.str _), by decide +kernel, _, rfl, rfl, ?_⟩
    obtain ⟨dx, bt, kr, kp, e1, e2, e3, e4, e5⟩ := h1.ex
    refine ⟨_, rfl, t, dx, _, rfl, e1, tfl_no (by decide +kernel), t, bp, T0, rfl, h1, ?_⟩
    refine ⟨_, rfl, S u, rfl, for_it walk_enumS (fun i σ' H' => (∃ x1 x2, σ' = [some (V.ref t), some (vS u), some (vS T0.signs), x1, x2]) ∧ Same H H') ⟨⟨_, _, rfl⟩, Same.refl H⟩ (fun _ _ _ _ _ => trivial) ?_ ?_⟩
    · rintro i x σ' H1 H2 hi ⟨⟨x1, x2, rfl⟩, s1⟩ ⟨Tt, c, rfl, nT, rfl, hc⟩
      refine ⟨Tt, _, rfl, SqT.of upd_same, rfl, _, _, rfl, _, _, rfl, rfl, ?_⟩
      refine ⟨_, rfl, _, rfl, c, _, rfl, rfl, _, rfl, ?_, ⟨_, _, rfl⟩, s1.trans (same_new nT)⟩
      rw [show decide (c ∈ (S T0.signs).cps.toList) = true from decide_eq_true (hu1 c (List.mem_of_getElem? hc))]
      rfl
    · rintro σ' H' ⟨_, s1⟩
      exact q H' s1
theorem sc_look_at_row : FnScope ["table", "row", "place", "piece"] ["table", "row"] (defScope (top 13)) := ⟨rfl, rfl, rfl, by decide +kernel, rfl, by decide +kernel, by decide +kernel⟩
theorem ok_look_at_row (T : Txt K mg CT CF) (h0 : Here K mg "look_at_row" (top 13)) (m_which : MetC P w K mg base 1 CT "which" (spWhich CT)) : DefC P w K mg base 2 "look_at_row" (spLookRow CT) := by
  refine def_of h0 sc_look_at_row (fun _ _ _ _ _ _ us hl => match us, hl with | [_, _], _ => rfl) (fun vs H Q E h => ?_) (fun f cdv A outer s H vs Q E hr h => ?_)
  · (first | (obtain ⟨_, rfl, _⟩ := h; rfl) | (obtain ⟨_, _, rfl, _⟩ := h; rfl) | (obtain ⟨_, _, _, rfl, _⟩ := h; rfl) | (obtain ⟨_, _, _, _, rfl, _⟩ := h; rfl) | (obtain ⟨_, _, _, _, _, rfl, _⟩ := h; rfl) | (obtain ⟨_, _, _, _, _, _, rfl, _⟩ := h; rfl) | (obtain ⟨_, _, _, _, _, _, _, rfl, _⟩ := h; rfl) | (obtain ⟨_, _, _, _, _, _, _, _, rfl, _⟩ := h; rfl))
  · have hu := hu_of hr
    obtain ⟨t, bp, T0, a, row, rfl, h1, ha, hm, q⟩ := h
    refine ⟨_, (pss_cons (ps_ifF (pt_not (pt_val (pe_isi (by rfl) T.isinstance (by rfl) T.list boot_listT (pv 1)))))
      (pss_one (ps_for PassesOwn.never rfl (pi_enum (by rfl) T.enumerate (pa_cons (pv 1) pa_nil)) (pg_tup rfl (pgs_cons (pg_name (i := 2) sc_look_at_row.nd rfl (Or.inl rfl)) (pgs_cons (pg_name (i := 3) sc_look_at_row.nd rfl (Or.inl rfl)) pgs_nil))) (pss_one (ps_ifF (pt_cmpR op_isN (pmt m_which hr (by decide) (pv 0) (pa_cons (pv 3) pa_nil)) pe_non (nomark _))))))), ?_⟩
    refine ⟨_, rfl, _, "list", true, rfl, .base (.lst ha), by decide +kernel, _, rfl, rfl, ?_⟩
    refine ⟨_, rfl, a, row.map vS, rfl, SqL.of ha, for_it walk_enum (fun i σ' H' => (∃ x1 x2, σ' = [some (V.ref t), some (V.ref a), x1, x2]) ∧ Same H H') ⟨⟨_, _, rfl⟩, Same.refl H⟩ (fun _ _ _ _ p => SqL.of (p.2 _ _ ha)) ?_ ?_⟩
    · rintro i x σ' H1 H2 hi ⟨⟨x1, x2, rfl⟩, s1⟩ ⟨Tt, v1, v2, rfl, nT, rfl, hv1, hv2⟩
      obtain ⟨p, hp, rfl⟩ := get_vS (show (row.map vS)[i]? = some v2 from hv2)
      have s2 := s1.trans (same_new (o := .tup [v1, vS p]) nT)
      obtain ⟨dx, bt, kr, kp, e1, e2, e3, e4, e5⟩ := (h1.same s2).ex
      refine ⟨Tt, _, rfl, SqT.of upd_same, rfl, _, _, rfl, _, _, rfl, rfl, ?_⟩
      refine ⟨_, rfl, t, dx, _, rfl, e1, tfl_no (by decide +kernel), _, rfl, t, bp, T0, p, rfl, h1.same s2, ?_⟩
      rw [if_pos (hm p (List.mem_of_getElem? hp))]
      exact ⟨rfl, _, rfl, rfl, ⟨_, _, rfl⟩, s2⟩
    · rintro σ' H' ⟨_, s1⟩
      exact q H' s1
theorem sc_joined_row : FnScope ["row", "left", "right", "found", "k"] ["row", "left", "right"] (defScope (top 14)) := ⟨rfl, rfl, rfl, by decide +kernel, rfl, by decide +kernel, by decide +kernel⟩
theorem ok_joined_row (T : Txt K mg CT CF) (h0 : Here K mg "joined_row" (top 14))  : DefC P w K mg base 1 "joined_row" (spJoined) := by
  refine def_of h0 sc_joined_row (fun _ _ _ _ _ _ us hl => match us, hl with | [_, _, _], _ => rfl) (fun vs H Q E h => ?_) (fun f cdv A outer s H vs Q E hr h => ?_)
  · (first | (obtain ⟨_, rfl, _⟩ := h; rfl) | (obtain ⟨_, _, rfl, _⟩ := h; rfl) | (obtain ⟨_, _, _, rfl, _⟩ := h; rfl) | (obtain ⟨_, _, _, _, rfl, _⟩ := h; rfl) | (obtain ⟨_, _, _, _, _, rfl, _⟩ := h; rfl) | (obtain ⟨_, _, _, _, _, _, rfl, _⟩ := h; rfl) | (obtain ⟨_, _, _, _, _, _, _, rfl, _⟩ := h; rfl) | (obtain ⟨_, _, _, _, _, _, _, _, rfl, _⟩ := h; rfl))
  · have hu := hu_of hr
    obtain ⟨a, row, L, R, rfl, ha, hlen, hLR, q⟩ := h
    refine ⟨_, (pss_cons (ps_set (i := 3) sc_joined_row.nd rfl (Or.inl rfl) (pe_lst pa_nil))
      (pss_cons (ps_set (i := 4) sc_joined_row.nd rfl (Or.inl rfl) pe_int)
      (pss_cons (ps_while PassesOwn.never (pt_cmpR op_lt (pv 4) (pe_callB call_len_seq (by rfl) T.len PySem.boot_len (pa_cons (pv 0) pa_nil)) (nomark _)) (pss_one (ps_if (PW.pt (pw_and (pt_cmpR op_eq (pe_ix ix_list (pv 0) (pv 4) (fun _ _ => rfl)) (pv 1) (nomark _)) (pw_and (pt_cmpR op_lt (pe_op op_add (pv 4) pe_int) (pe_callB call_len_seq (by rfl) T.len PySem.boot_len (pa_cons (pv 0) pa_nil)) (nomark _)) (pw_and1 (pt_cmpR op_eq (pe_ix ix_list (pv 0) (pe_op op_add (pv 4) pe_int) (fun _ _ => rfl)) (pv 2) (nomark _)))))) (pss_cons (ps_expr (pe_bm PySem.F.plainAttrs_list PySem.F.slot_list_append PySem.F.type_list_append mt_append (pv 3) (pa_cons (pe_op op_add_str (pv 1) (pv 2)) pa_nil)))
      (pss_one (ps_aug (i := 4) sc_joined_row.nd rfl (Or.inl rfl) pe_int ip_add))) (pss_cons (ps_expr (pe_bm PySem.F.plainAttrs_list PySem.F.slot_list_append PySem.F.type_list_append mt_append (pv 3) (pa_cons (pe_ix ix_list (pv 0) (pv 4) (fun _ _ => rfl)) pa_nil)))
      (pss_one (ps_aug (i := 4) sc_joined_row.nd rfl (Or.inl rfl) pe_int ip_add))))))
      (pss_one (ps_ret (pv 3)))))), ?_⟩
    refine ⟨by show 0 ≤ sizeLine; decide, fun p hp => ?_⟩
    have ap : a ≠ p := ne_of_none ha hp
    refine ⟨fun m σ' H' => ∃ k : Nat, m = row.length - k ∧ k ≤ row.length ∧ σ' = [some (V.ref a), some (vS L), some (vS R), some (V.ref p), some (.int (k : Int))] ∧ Same H H' ∧ ∃ fd : Rw, LstAt H' p fd ∧ fd.length ≤ k ∧ fd ++ pass L R (row.drop k) = pass L R row, ⟨_, 0, rfl, Nat.zero_le _, rfl, same_new hp, [], upd_same, Nat.zero_le _, rfl⟩, ?_⟩
    rintro m σ' H' ⟨k, rfl, hk, rfl, s1, fd, hfd, hfl, hfe⟩
    have ha1 := s1 _ _ ha
    refine ⟨_, rfl, _, rfl, a, _, rfl, .inl (SqL.of ha1), _, _, rfl, rfl, _, rfl, ?_⟩
    rw [List.length_map]
    refine ite2 (fun hlt => ?_) (fun hlt => ?_)
    · have hlt : k < row.length := by have := of_decide_eq_true hlt; omega
      obtain ⟨x, hx⟩ : ∃ x, row[k]? = some x := ⟨_, List.getElem?_eq_getElem hlt⟩
      have hxv : (row.map vS)[k]? = some (vS x) := by rw [List.getElem?_map, hx]; rfl
      have hdrop : row.drop k = x :: row.drop (k + 1) := by
        rw [List.drop_eq_getElem_cons hlt]
        rw [List.getElem?_eq_getElem hlt] at hx
        rw [Option.some.inj hx]
      refine ⟨fun σ2 H2 => ∃ k2 : Nat, k < k2 ∧ k2 ≤ row.length ∧ σ2 = [some (V.ref a), some (vS L), some (vS R), some (V.ref p), some (.int (k2 : Int))] ∧ Same H H2 ∧ ∃ fd : Rw, LstAt H2 p fd ∧ fd.length ≤ k2 ∧ fd ++ pass L R (row.drop k2) = pass L R row, ?_, ?_⟩
      · rintro σ2 H2 ⟨k2, l1, l2, e, r⟩
        exact ⟨_, (by omega : row.length - k2 < row.length - k), k2, rfl, l2, e, r⟩
      · have hsz : (fd.map vS).length < sizeLine := by rw [List.length_map]; exact smallLt (by omega)
        have fin1 : ¬ (x = L ∧ (row.drop (k + 1)).head? = some R) → (fd ++ [x]) ++ pass L R (row.drop (k + 1)) = pass L R row := fun hn => by
          rw [← hfe, hdrop]
          cases e : row.drop (k + 1) with
          | nil => simp [pass]
          | cons y r =>
            rw [pass_one (fun z => hn ⟨z.1, by rw [e, z.2]; rfl⟩)]; simp
        have hap1 : ∀ y, Same H (upd H' p (.lst (fd.map vS ++ [y]))) := fun y => s1.mut hp
        have hls : ∀ y, LstAt (upd H' p (.lst (fd.map vS ++ [vS y]))) p (fd ++ [y]) := fun y => by unfold LstAt; rw [upd_same, List.map_append]; rfl
        refine ⟨_, rfl, _, rfl, a, _, _, _, rfl, rfl, SqL.of ha1, atI_nat hxv, _, rfl, rfl, _, rfl, ?_⟩
        refine ite2 (fun h1 => ?_) (fun h1 => ?_)
        · have hxL : x = L := vS_inj (of_decide_eq_true h1)
          refine ⟨_, rfl, _, _, rfl, rfl, _, rfl, a, _, rfl, .inl (SqL.of ha1), _, _, rfl, rfl, _, rfl, ?_⟩
          rw [List.length_map]
          refine ite2 (fun h2 => ?_) (fun h2 => ?_)
          · have hk1 : k + 1 < row.length := by have := of_decide_eq_true h2; omega
            obtain ⟨y, hy⟩ : ∃ y, row[k + 1]? = some y := ⟨_, List.getElem?_eq_getElem hk1⟩
            have hyv : (row.map vS)[k + 1]? = some (vS y) := by rw [List.getElem?_map, hy]; rfl
            have hd2 : row.drop (k + 1) = y :: row.drop (k + 2) := by
              rw [List.drop_eq_getElem_cons hk1]
              rw [List.getElem?_eq_getElem hk1] at hy
              rw [Option.some.inj hy]
            refine ⟨_, rfl, _, rfl, _, _, rfl, rfl, a, _, _, _, rfl, rfl, SqL.of ha1, atI_nat (j := k + 1) hyv, _, rfl, rfl, _, rfl, ?_⟩
            refine ite2 (fun h3 => ?_) (fun h3 => ?_)
            · have hyR : y = R := vS_inj (of_decide_eq_true h3)
              refine ⟨_, rfl, .inl ⟨rfl, _, SqL.of hfd⟩, _, rfl, _, rfl, _, _, rfl, rfl, small (by rw [len_S, len_S]; omega), p, _, _, rfl, rfl, hfd, hsz, ?_⟩
              rw [S_cat]
              refine ⟨_, rfl, _, _, rfl, rfl, k + 2, by omega, by omega, rfl, hap1 _, fd ++ [L ++ R], hls _, by rw [List.length_append]; simp; omega, ?_⟩
              rw [← hfe, hdrop, hd2, pass_two ⟨hxL, hyR⟩]; simp
            · refine ⟨_, rfl, .inl ⟨rfl, _, SqL.of hfd⟩, _, rfl, _, rfl, a, _, _, _, rfl, rfl, SqL.of ha1, atI_nat hxv, p, _, _, rfl, rfl, hfd, hsz, ?_⟩
              refine ⟨_, rfl, _, _, rfl, rfl, k + 1, by omega, by omega, rfl, hap1 _, fd ++ [x], hls _, by rw [List.length_append]; simp; omega, fin1 fun z => ?_⟩
              have z2 := z.2
              rw [hd2] at z2
              exact h3 (decide_eq_true (congrArg vS (Option.some.inj z2)))
          · refine ⟨_, rfl, .inl ⟨rfl, _, SqL.of hfd⟩, _, rfl, _, rfl, a, _, _, _, rfl, rfl, SqL.of ha1, atI_nat hxv, p, _, _, rfl, rfl, hfd, hsz, ?_⟩
            refine ⟨_, rfl, _, _, rfl, rfl, k + 1, by omega, by omega, rfl, hap1 _, fd ++ [x], hls _, by rw [List.length_append]; simp; omega, fin1 fun z => ?_⟩
            have z2 := z.2
            rw [List.drop_eq_nil_of_le (by have : ¬ ((k : Int) + 1 < (row.length : Int)) := fun w => h2 (decide_eq_true w)
                                           omega)] at z2
            cases z2
        · refine ⟨_, rfl, .inl ⟨rfl, _, SqL.of hfd⟩, _, rfl, _, rfl, a, _, _, _, rfl, rfl, SqL.of ha1, atI_nat hxv, p, _, _, rfl, rfl, hfd, hsz, ?_⟩
          refine ⟨_, rfl, _, _, rfl, rfl, k + 1, by omega, by omega, rfl, hap1 _, fd ++ [x], hls _, by rw [List.length_append]; simp; omega, fin1 fun z => h1 (decide_eq_true (congrArg vS z.1))⟩
    · have hlt : k = row.length := by
        have : ¬ (k : Int) < (row.length : Int) := fun z => hlt (decide_eq_true z)
        omega
      subst hlt
      refine ⟨_, rfl, q p H' ⟨hp, s1⟩ ?_⟩
      rw [List.drop_length] at hfe
      have : fd = pass L R row := by rw [← hfe]; simp [pass]
      rw [← this]; exact hfd
theorem sc_signs_of : FnScope ["table", "text"] ["table", "text"] (defScope (top 15)) := ⟨rfl, rfl, rfl, by decide +kernel, rfl, by decide +kernel, by decide +kernel⟩
theorem ok_signs_of (T : Txt K mg CT CF) (h0 : Here K mg "signs_of" (top 15)) (d_look_at_text : DefC P w K mg base 2 "look_at_text" (spLookText CT)) : DefC P w K mg base 3 "signs_of" (spSignsOf CT) := by
  refine def_of h0 sc_signs_of (fun _ _ _ _ _ _ us hl => match us, hl with | [_, _], _ => rfl) (fun vs H Q E h => ?_) (fun f cdv A outer s H vs Q E hr h => ?_)
  · (first | (obtain ⟨_, rfl, _⟩ := h; rfl) | (obtain ⟨_, _, rfl, _⟩ := h; rfl) | (obtain ⟨_, _, _, rfl, _⟩ := h; rfl) | (obtain ⟨_, _, _, _, rfl, _⟩ := h; rfl) | (obtain ⟨_, _, _, _, _, rfl, _⟩ := h; rfl) | (obtain ⟨_, _, _, _, _, _, rfl, _⟩ := h; rfl) | (obtain ⟨_, _, _, _, _, _, _, rfl, _⟩ := h; rfl) | (obtain ⟨_, _, _, _, _, _, _, _, rfl, _⟩ := h; rfl))
  · have hu := hu_of hr
    obtain ⟨t, bp, T0, u, rfl, h1, hu1, hl, q⟩ := h
    refine ⟨_, (pss_cons (ps_expr (pcl d_look_at_text hr (by decide) (by rfl) (pa_cons (pv 0) (pa_cons (pv 1) pa_nil))))
      (pss_one (ps_ret (pe_callTy (call_listS rfl) (by rfl) T.list boot_listT (pa_cons (pv 1) pa_nil))))), ?_⟩
    refine ⟨_, rfl, _, rfl, t, bp, T0, u, rfl, h1, hu1, fun H1 s1 => ?_⟩
    refine ⟨_, rfl, u, rfl, small (by omega), fun l hl2 => ?_⟩
    exact q l _ ⟨s1.free hl2, s1.trans (same_new hl2)⟩ upd_same
theorem sc_swept_from : FnScope ["table", "row", "rank", "rows", "found", "left", "right"] ["table", "row", "rank"] (defScope (top 16)) := ⟨rfl, rfl, rfl, by decide +kernel, rfl, by decide +kernel, by decide +kernel⟩
theorem ok_swept_from (T : Txt K mg CT CF) (h0 : Here K mg "swept_from" (top 16)) (d_is_whole : DefC P w K mg base 1 "is_whole" (spWhole)) (d_joined_row : DefC P w K mg base 1 "joined_row" (spJoined)) (d_look_at_row : DefC P w K mg base 2 "look_at_row" (spLookRow CT)) (m_rows : MetC P w K mg base 1 CT "rows" (spRows CT)) : DefC P w K mg base 3 "swept_from" (spSweptFrom CT) := by
  refine def_of h0 sc_swept_from (fun _ _ _ _ _ _ us hl => match us, hl with | [_, _, _], _ => rfl) (fun vs H Q E h => ?_) (fun f cdv A outer s H vs Q E hr h => ?_)
  · (first | (obtain ⟨_, rfl, _⟩ := h; rfl) | (obtain ⟨_, _, rfl, _⟩ := h; rfl) | (obtain ⟨_, _, _, rfl, _⟩ := h; rfl) | (obtain ⟨_, _, _, _, rfl, _⟩ := h; rfl) | (obtain ⟨_, _, _, _, _, rfl, _⟩ := h; rfl) | (obtain ⟨_, _, _, _, _, _, rfl, _⟩ := h; rfl) | (obtain ⟨_, _, _, _, _, _, _, rfl, _⟩ := h; rfl) | (obtain ⟨_, _, _, _, _, _, _, _, rfl, _⟩ := h; rfl))
  · have hu := hu_of hr
    obtain ⟨t, bp, T0, a, row, rfl, h1, ha, hm, hl, q⟩ := h
    refine ⟨_, (pss_cons (ps_expr (pcl d_look_at_row hr (by decide) (by rfl) (pa_cons (pv 0) (pa_cons (pv 1) pa_nil))))
      (pss_cons (ps_set (i := 3) sc_swept_from.nd rfl (Or.inl rfl) (pmt0 m_rows hr (by decide) (pv 0)))
      (pss_cons (ps_ifF (PW.pt (pw_or (pt_not (pt_val (pcl d_is_whole hr (by decide) (by rfl) (pa_cons (pv 2) pa_nil)))) (pw_or1 (pt_not (pt_chain op_le op_le pe_int (pv 2) (pe_callB call_len_seq (by rfl) T.len PySem.boot_len (pa_cons (pv 3) pa_nil))))))))
      (pss_cons (ps_set (i := 4) sc_swept_from.nd rfl (Or.inl rfl) (pe_callTy call_list_of (by rfl) T.list boot_listT (pa_cons (pv 1) pa_nil)))
      (pss_cons (ps_for PassesOwn.never rfl (pi_list (pe_slice sl_list (pv 3) (po_some (pv 2)) po_none)) (pg_tup rfl (pgs_cons (pg_name (i := 5) sc_swept_from.nd rfl (Or.inl rfl)) (pgs_cons (pg_name (i := 6) sc_swept_from.nd rfl (Or.inl rfl)) pgs_nil))) (pss_one (ps_set (i := 4) sc_swept_from.nd rfl (Or.inl rfl) (pcl d_joined_row hr (by decide) (by rfl) (pa_cons (pv 4) (pa_cons (pv 5) (pa_cons (pv 6) pa_nil)))))))
      (pss_one (ps_ret (pv 4)))))))), ?_⟩
    refine ⟨_, rfl, _, rfl, t, bp, T0, a, row, rfl, h1, ha, hm, fun H1 s1 => ?_⟩
    have h2 := h1.same s1
    obtain ⟨dx, bt, kr, kp, e1, e2, e3, e4, e5⟩ := h2.ex
    refine ⟨_, rfl, t, dx, _, rfl, e1, tfl_no (by decide +kernel), t, bp, T0, rfl, h2, fun pr H2 n2 hr2 => ?_⟩
    have s2 := s1.trans n2.2
    obtain ⟨qs, hq1, hq2⟩ := id hr2
    have lqs : qs.length = T0.rows.length := Paired.length hq2
    have nr := h1.nr
    refine ⟨_, rfl, 0, rfl, _, rfl, ?_⟩
    refine ⟨_, rfl, _, _, rfl, rfl, _, rfl, ?_⟩
    refine ⟨_, rfl, pr, _, rfl, .inl (SqL.of hq1), _, _, rfl, rfl, _, rfl, ?_⟩
    refine ⟨?_, ?_⟩
    · rw [show decide ((0 : Int) ≤ (((qs.map V.ref).length : Nat) : Int)) = true from decide_eq_true (by omega)]; rfl
    refine ⟨_, rfl, a, _, rfl, .inl (SqL.of (s2 _ _ ha)), fun p0 hp0 => ?_⟩
    have s3 := s2.trans (same_new (o := .lst (row.map vS)) hp0)
    refine ⟨_, rfl, _, rfl, _, rfl, pr, _, rfl, SqL.of (same_new hp0 _ _ hq1), fun sl hsl => ?_⟩
    have n0 : H p0 = none := s2.free hp0
    have s4 := s3.trans (same_new (o := .lst (cutV (qs.map V.ref) (some 0) none)) hsl)
    rw [show cutV (qs.map V.ref) (some (0 : Int)) none = qs.map V.ref from cutV_from _ 0] at s4 ⊢
    refine ⟨sl, rfl, ⟨_, SqL.of upd_same⟩, for_list (xs := qs.map V.ref) (fun i σ' H' => (∃ x1 x2 pf, σ' = [some (V.ref t), some (V.ref a), some (.int 0), some (V.ref pr), some (V.ref pf), x1, x2] ∧ LstAt H' pf (cutF (T0.rows.take i) row) ∧ H pf = none) ∧ Same (upd (upd H2 p0 (.lst (row.map vS))) sl (.lst (qs.map V.ref))) H') ⟨⟨_, _, p0, rfl, ?_, n0⟩, Same.refl _⟩ (fun i σ' H' _ p => SqL.of (p.2 _ _ upd_same)) ?_ ?_⟩
    · show _ = some (HO.lst (row.map vS))
      rw [upd_ne (ne_of_none upd_same hsl), upd_same]
    · rintro i x σ' H' hx ⟨⟨x1, x2, pf, rfl, hpf, npf⟩, s5⟩
      rw [List.getElem?_map] at hx
      obtain ⟨qa, hqa, rfl⟩ : ∃ qa, qs[i]? = some qa ∧ x = V.ref qa := by
        cases e : qs[i]? with
        | none => rw [e] at hx; cases hx
        | some qa => rw [e] at hx; exact ⟨qa, rfl, (Option.some.inj hx).symm⟩
      obtain ⟨r, hr0, hqt⟩ := pair_get' hq2 hqa
      have hqt' : H' qa = some (.tup [vS r.1, vS r.2]) := s5 _ _ (same_new hsl _ _ (same_new hp0 _ _ hqt))
      have lr := (h1.ok.row i r hr0).2.2.2
      unfold jn at lr
      rw [List.length_append] at lr
      have lc := len_cutF (T0.rows.take i) row
      refine ⟨qa, _, rfl, SqT.of hqt', rfl, _, _, rfl, _, _, rfl, rfl, ?_⟩
      refine ⟨_, rfl, _, rfl, _, rfl, pf, cutF (T0.rows.take i) row, r.1, r.2, rfl, hpf, by omega, by omega, fun p1 H3 n3 hp1 => ?_⟩
      refine ⟨⟨_, _, p1, rfl, by rw [cutF_succ hr0]; exact hp1, ?_⟩, s5.trans n3.2⟩
      exact (s4.trans s5).free n3.1
    · rintro σ' H' ⟨⟨x1, x2, pf, rfl, hpf, npf⟩, s5⟩
      rw [List.length_map, lqs, List.take_length] at hpf
      exact ⟨_, rfl, q pf H' ⟨npf, s4.trans s5⟩ hpf⟩
theorem sc_swept : FnScope ["table", "text"] ["table", "text"] (defScope (top 17)) := ⟨rfl, rfl, rfl, by decide +kernel, rfl, by decide +kernel, by decide +kernel⟩
theorem ok_swept (T : Txt K mg CT CF) (h0 : Here K mg "swept" (top 17)) (d_signs_of : DefC P w K mg base 3 "signs_of" (spSignsOf CT)) (d_swept_from : DefC P w K mg base 3 "swept_from" (spSweptFrom CT)) : DefC P w K mg base 4 "swept" (spSwept CT) := by
  refine def_of h0 sc_swept (fun _ _ _ _ _ _ us hl => match us, hl with | [_, _], _ => rfl) (fun vs H Q E h => ?_) (fun f cdv A outer s H vs Q E hr h => ?_)
  · (first | (obtain ⟨_, rfl, _⟩ := h; rfl) | (obtain ⟨_, _, rfl, _⟩ := h; rfl) | (obtain ⟨_, _, _, rfl, _⟩ := h; rfl) | (obtain ⟨_, _, _, _, rfl, _⟩ := h; rfl) | (obtain ⟨_, _, _, _, _, rfl, _⟩ := h; rfl) | (obtain ⟨_, _, _, _, _, _, rfl, _⟩ := h; rfl) | (obtain ⟨_, _, _, _, _, _, _, rfl, _⟩ := h; rfl) | (obtain ⟨_, _, _, _, _, _, _, _, rfl, _⟩ := h; rfl))
  · have hu := hu_of hr
    obtain ⟨t, bp, T0, u, rfl, h1, hu1, hl, q⟩ := h
    refine ⟨_, (pss_one (ps_ret (pcl d_swept_from hr (by decide) (by rfl) (pa_cons (pv 0) (pa_cons (pcl d_signs_of hr (by decide) (by rfl) (pa_cons (pv 0) (pa_cons (pv 1) pa_nil))) (pa_cons pe_int pa_nil)))))), ?_⟩
    refine ⟨_, rfl, _, rfl, _, rfl, t, bp, T0, u, rfl, h1, hu1, hl, fun p H1 n1 hp => ?_⟩
    refine ⟨t, bp, T0, p, sg u, rfl, h1.same n1.2, hp, fun x hx => ?_, by rw [len_sg]; exact hl, fun p2 H2 n2 hp2 => ?_⟩
    · obtain ⟨c, hc, rfl⟩ := List.mem_map.mp hx
      exact List.mem_append_left _ (List.mem_map.mpr ⟨c, hu1 c hc, rfl⟩)
    · exact q p2 H2 ⟨n1.2.free n2.1, n1.2.trans n2.2⟩ hp2
end
end JR
namespace JR
open PySem PySem.Spec PyProof.Rows L2 SX
section
variable {P : Program} {w : World} {K : PySem.W.Frag} {mg : Str → Option Value} {base : Heap} {CT CF : Addr}
theorem sc_look_at_piece : FnScope ["table", "piece"] ["table", "piece"] (defScope (top 19)) := ⟨rfl, rfl, rfl, by decide +kernel, rfl, by decide +kernel, by decide +kernel⟩
theorem ok_look_at_piece (T : Txt K mg CT CF) (h0 : Here K mg "look_at_piece" (top 19)) (m_which : MetC P w K mg base 1 CT "which" (spWhich CT)) : DefC P w K mg base 2 "look_at_piece" (spLookPiece CT) := by
  refine def_of h0 sc_look_at_piece (fun _ _ _ _ _ _ us hl => match us, hl with | [_, _], _ => rfl) (fun vs H Q E h => ?_) (fun f cdv A outer s H vs Q E hr h => ?_)
  · (first | (obtain ⟨_, rfl, _⟩ := h; rfl) | (obtain ⟨_, _, rfl, _⟩ := h; rfl) | (obtain ⟨_, _, _, rfl, _⟩ := h; rfl) | (obtain ⟨_, _, _, _, rfl, _⟩ := h; rfl) | (obtain ⟨_, _, _, _, _, rfl, _⟩ := h; rfl) | (obtain ⟨_, _, _, _, _, _, rfl, _⟩ := h; rfl) | (obtain ⟨_, _, _, _, _, _, _, rfl, _⟩ := h; rfl) | (obtain ⟨_, _, _, _, _, _, _, _, rfl, _⟩ := h; rfl))
  · have hu := hu_of hr
    obtain ⟨t, bp, T0, p, rfl, h1, hp, q⟩ := h
    obtain ⟨dx, bt, kr, kp, e1, e2, e3, e4, e5⟩ := h1.ex
    refine ⟨_, (pss_one (ps_ifF (pt_cmpR op_isN (pmt m_which hr (by decide) (pv 0) (pa_cons (pv 1) pa_nil)) pe_non (nomark _)))), ?_⟩
    refine ⟨_, rfl, t, dx, _, rfl, e1, tfl_no (by decide +kernel), _, rfl, t, bp, T0, p, rfl, h1, ?_⟩
    rw [if_pos hp]
    exact ⟨rfl, _, rfl, rfl, q⟩
theorem sc_own_rank : FnScope ["table", "piece"] ["table", "piece"] (defScope (top 21)) := ⟨rfl, rfl, rfl, by decide +kernel, rfl, by decide +kernel, by decide +kernel⟩
theorem ok_own_rank (T : Txt K mg CT CF) (h0 : Here K mg "own_rank" (top 21)) (m_signs : MetC P w K mg base 1 CT "signs" (spSigns CT)) (m_which : MetC P w K mg base 1 CT "which" (spWhich CT)) : DefC P w K mg base 2 "own_rank" (spOwn CT) := by
  refine def_of h0 sc_own_rank (fun _ _ _ _ _ _ us hl => match us, hl with | [_, _], _ => rfl) (fun vs H Q E h => ?_) (fun f cdv A outer s H vs Q E hr h => ?_)
  · (first | (obtain ⟨_, rfl, _⟩ := h; rfl) | (obtain ⟨_, _, rfl, _⟩ := h; rfl) | (obtain ⟨_, _, _, rfl, _⟩ := h; rfl) | (obtain ⟨_, _, _, _, rfl, _⟩ := h; rfl) | (obtain ⟨_, _, _, _, _, rfl, _⟩ := h; rfl) | (obtain ⟨_, _, _, _, _, _, rfl, _⟩ := h; rfl) | (obtain ⟨_, _, _, _, _, _, _, rfl, _⟩ := h; rfl) | (obtain ⟨_, _, _, _, _, _, _, _, rfl, _⟩ := h; rfl))
  · have hu := hu_of hr
    obtain ⟨t, bp, T0, p, rfl, h1, hp, q⟩ := h
    obtain ⟨dx, bt, kr, kp, e1, e2, e3, e4, e5⟩ := h1.ex
    refine ⟨_, (pss_one (ps_ret (pe_op op_sub (pmt m_which hr (by decide) (pv 0) (pa_cons (pv 1) pa_nil)) (pe_callB call_len_str (by rfl) T.len PySem.boot_len (pa_cons (pmt0 m_signs hr (by decide) (pv 0)) pa_nil))))), ?_⟩
    refine ⟨_, rfl, t, dx, _, rfl, e1, tfl_no (by decide +kernel), _, rfl, t, bp, T0, p, rfl, h1, ?_⟩
    rw [if_pos hp]
    refine ⟨_, rfl, t, dx, _, rfl, e1, tfl_no (by decide +kernel), t, bp, T0, rfl, h1, _, rfl, small (by rw [len_S]; have := h1.ns.2; omega), _, _, rfl, rfl, ?_⟩
    rw [len_S]
    exact q
theorem sc_edge : FnScope ["table", "piece", "side", "found", "parts"] ["table", "piece", "side"] (defScope (top 20)) := ⟨rfl, rfl, rfl, by decide +kernel, rfl, by decide +kernel, by decide +kernel⟩
theorem ok_edge (T : Txt K mg CT CF) (h0 : Here K mg "edge" (top 20)) (m_parts : MetC P w K mg base 2 CT "parts" (spParts CT)) : DefC P w K mg base 3 "edge" (spEdge CT) := by
  refine def_of h0 sc_edge (fun _ _ _ _ _ _ us hl => match us, hl with | [_, _, _], _ => rfl) (fun vs H Q E h => ?_) (fun f cdv A outer s H vs Q E hr h => ?_)
  · (first | (obtain ⟨_, rfl, _⟩ := h; rfl) | (obtain ⟨_, _, rfl, _⟩ := h; rfl) | (obtain ⟨_, _, _, rfl, _⟩ := h; rfl) | (obtain ⟨_, _, _, _, rfl, _⟩ := h; rfl) | (obtain ⟨_, _, _, _, _, rfl, _⟩ := h; rfl) | (obtain ⟨_, _, _, _, _, _, rfl, _⟩ := h; rfl) | (obtain ⟨_, _, _, _, _, _, _, rfl, _⟩ := h; rfl) | (obtain ⟨_, _, _, _, _, _, _, _, rfl, _⟩ := h; rfl))
  · have hu := hu_of hr
    obtain ⟨t, bp, T0, p, sd, rfl, h1, hp, q⟩ := h
    have h36 := h1.len_pieces
    have hnum : ∀ c ∈ T0.pieces, T0.num c < 36 := fun c hc => Nat.lt_of_lt_of_le (List.idxOf_lt_length_of_mem hc) h36
    refine ⟨_, (pss_cons (ps_set (i := 3) sc_edge.nd rfl (Or.inl rfl) (pe_lst (pa_cons (pv 1) pa_nil)))
      (Evl.pss_cut (ps_set (i := 4) sc_edge.nd rfl (Or.inl rfl) (pmt m_parts hr (by decide) (pv 0) (pa_cons (pv 1) pa_nil)))
      (pss_cons (ps_while PassesOwn.never (pt_cmpR op_notN (pv 4) pe_non (nomark _)) (pss_cons (ps_expr (pe_bm PySem.F.plainAttrs_list PySem.F.slot_list_append PySem.F.type_list_append mt_append (pv 3) (pa_cons (pe_ix ix_tup (pv 4) (pv 2) (fun _ _ => rfl)) pa_nil)))
      (pss_one (ps_set (i := 4) sc_edge.nd rfl (Or.inl rfl) (pmt m_parts hr (by decide) (pv 0) (pa_cons (pe_ix ix_tup (pv 4) (pv 2) (fun _ _ => rfl)) pa_nil))))))
      (pss_one (ps_ret (pv 3)))))), ?_⟩
    refine ⟨_, rfl, by show 1 ≤ sizeLine; decide, fun fa hfa => ?_⟩
    have s1 := same_new (o := .lst [vS p]) hfa
    have h2 := h1.same s1
    obtain ⟨dx, bt, kr, kp, e1, e2, e3, e4, e5⟩ := h2.ex
    let Inv : Nat → L2.St → Hp → Prop := fun m σ' H' => ∃ pre c v, m = T0.num c ∧ c ∈ T0.pieces ∧ pre.length + T0.num c ≤ 40 ∧ σ' = [some (V.ref t), some (vS p), some (.int (if sd then 1 else 0)), some (V.ref fa), some v] ∧ Same H H' ∧ LstAt H' fa (pre ++ [c]) ∧
      (∀ es, Edge T0 sd c es → Edge T0 sd p (pre ++ es)) ∧ ((T0.parts c = none ∧ v = .non) ∨ ∃ qa r, T0.parts c = some r ∧ v = .ref qa ∧ H' qa = some (.tup [vS r.1, vS r.2]))
    refine ⟨Inv (T0.num p), ?_, ?_⟩
    · refine ⟨_, rfl, t, dx, _, rfl, e1, tfl_no (by decide +kernel), _, rfl, t, bp, T0, p, rfl, h2, hp, fun hn => ?_, fun qa r hr0 hq => ?_⟩
      · exact ⟨[], p, _, rfl, hp, by have := hnum p hp; show 0 + _ ≤ _; omega, rfl, s1, upd_same, fun es he => he, .inl ⟨hn, rfl⟩⟩
      · exact ⟨[], p, _, rfl, hp, by have := hnum p hp; show 0 + _ ≤ _; omega, rfl, s1, upd_same, fun es he => he, .inr ⟨qa, r, hr0, rfl, hq⟩⟩
    intro σ0 H0 w0
    refine ⟨Inv, ⟨_, w0⟩, ?_⟩
    rintro m σ' H' ⟨pre, c, v, rfl, hc, hpl, rfl, s2, hfd, hed, hv⟩
    rcases hv with ⟨hn, rfl⟩ | ⟨qa, r, hr0, rfl, hq⟩
    · refine ⟨_, rfl, rfl, _, rfl, ?_⟩
      exact ⟨_, rfl, q (pre ++ [c]) fa H' (hed _ (.sign hn)) ⟨hfa, s2⟩ hfd⟩
    · obtain ⟨k, hk, ek⟩ := parts_some h1.ok hc hr0
      have lt2 : T0.num (if sd then r.2 else r.1) < T0.num c := by
        have a1 := num_before h1.ok (Nat.le_of_lt (row_lt h1.ok hk)) (h1.ok.row k r hk).1
        have a2 := num_before h1.ok (Nat.le_of_lt (row_lt h1.ok hk)) (h1.ok.row k r hk).2.1
        rw [ek, num_row h1.ok hk]
        cases sd
        · exact a1
        · exact a2
      have mem2 : (if sd then r.2 else r.1) ∈ T0.pieces := by
        cases sd
        · exact left_mem h1.ok hk
        · exact right_mem h1.ok hk
      have hat : atI [vS r.1, vS r.2] (if sd then 1 else 0) = some (vS (if sd then r.2 else r.1)) := by cases sd <;> rfl
      refine ⟨_, rfl, rfl, _, rfl, ?_⟩
      refine ⟨fun σ2 H2 => ∃ m', m' < T0.num c ∧ Inv m' σ2 H2, fun _ _ h => h, ?_⟩
      have hsz : ((pre ++ [c]).map vS).length < sizeLine := by rw [List.length_map, List.length_append]; exact smallLt (by simp; omega)
      refine ⟨_, rfl, .inl ⟨rfl, _, SqL.of hfd⟩, _, rfl, _, rfl, qa, _, _, _, rfl, rfl, SqT.of hq, hat, fa, _, _, rfl, rfl, hfd, hsz, ?_⟩
      have qf : qa ≠ fa := ne_of hq hfd (by intro z; cases z)
      have s3 := s2.mut (o := .lst ((pre ++ [c]).map vS ++ [vS (if sd then r.2 else r.1)])) hfa
      have h3 := h1.same s3
      obtain ⟨dx', bt', kr', kp', f1, f2, f3, f4, f5⟩ := h3.ex
      have hl3 : LstAt (upd H' fa (.lst ((pre ++ [c]).map vS ++ [vS (if sd then r.2 else r.1)]))) fa ((pre ++ [c]) ++ [if sd then r.2 else r.1]) := by
        unfold LstAt; rw [upd_same]; simp only [List.map_append]; rfl
      have hed3 : ∀ es, Edge T0 sd (if sd then r.2 else r.1) es → Edge T0 sd p (pre ++ [c] ++ es) := fun es he => by
        have := hed _ (.more hr0 he)
        rw [List.append_assoc]; exact this
      have hl4 : (pre ++ [c]).length + T0.num (if sd then r.2 else r.1) ≤ 40 := by rw [List.length_append]; simp; omega
      refine ⟨_, rfl, t, dx', _, rfl, f1, tfl_no (by decide +kernel), _, rfl, _, rfl, qa, _, _, _, rfl, rfl, SqT.of (by rw [upd_ne qf]; exact hq), hat, t, bp, T0, _, rfl, h3, mem2, fun hn2 => ?_, fun qb r2 hr2 hqb => ?_⟩
      · exact ⟨_, lt2, pre ++ [c], _, _, rfl, mem2, hl4, rfl, s3, hl3, hed3, .inl ⟨hn2, rfl⟩⟩
      · exact ⟨_, lt2, pre ++ [c], _, _, rfl, mem2, hl4, rfl, s3, hl3, hed3, .inr ⟨qb, r2, hr2, rfl, hqb⟩⟩
end
end JR
namespace JR
open PySem PySem.Spec PyProof.Rows L2 SX
section
variable {P : Program} {w : World} {K : PySem.W.Frag} {mg : Str → Option Value} {base : Heap} {CT CF : Addr}

/-! ### the test of joined_over, and what it finds -/
def ltV (n : Nat) : V → Bool
  | .int z => decide ((n : Int) < z)
  | _ => true
def leV (n : Nat) : V → Bool
  | .int z => decide ((n : Int) ≤ z)
  | _ => true
def condV (r : Option Nat) (b h : V) : Bool := match r with
  | none => false
  | some r => ltV r b && leV r h
theorem cond_ok {σ : L2.St} {H : Hp} {Q : Bool → Hp → Prop} {r : Option Nat} {b h : V} (h8 : σ[8]? = some (some (optN r))) (h4 : σ[4]? = some (some b)) (h6 : σ[6]? = some (some h)) (hb : b = .non ∨ ∃ z, b = .int z) (hh : h = .non ∨ ∃ z, h = .int z) (q : Q (condV r b h) H) :
    tAnd (tTest (tOp (fun x y H Q => y = .non ∧ Q (.bl (!decide (x = .non))) H) (tVar 8) (tC .non)))
      (tAnd (tOr (tTest (tOp (fun x y H Q => y = .non ∧ Q (.bl (decide (x = .non))) H) (tVar 4) (tC .non))) (tTest (tOp (rI0 fun i j => .bl (decide (i < j))) (tVar 8) (tVar 4))))
        (tOr (tTest (tOp (fun x y H Q => y = .non ∧ Q (.bl (decide (x = .non))) H) (tVar 6) (tC .non))) (tTest (tOp (rI0 fun i j => .bl (decide (i ≤ j))) (tVar 8) (tVar 6))))) σ H Q := by
  have mono : ∀ {A B : Prop} {c : Bool}, (c = true → A) → (c = false → B) → if c = true then A else B := fun h1 h2 => by
    split
    · rename_i e; exact h1 e
    · rename_i e; exact h2 (by simpa using e)
  refine ⟨_, h8, rfl, _, rfl, ?_⟩
  cases r with
  | none => exact mono (fun e => by cases e) (fun _ => q)
  | some n =>
    refine mono (fun _ => ?_) (fun e => by cases e)
    have second : ∀ (Q2 : Bool → Hp → Prop), Q2 (leV n h) H → tOr (tTest (tOp (fun x y H Q => y = .non ∧ Q (.bl (decide (x = .non))) H) (tVar 6) (tC .non))) (tTest (tOp (rI0 fun i j => .bl (decide (i ≤ j))) (tVar 8) (tVar 6))) σ H Q2 := fun Q2 q2 => by
      refine ⟨_, h6, rfl, _, rfl, ?_⟩
      rcases hh with rfl | ⟨z, rfl⟩
      · exact q2
      · exact ⟨_, h8, _, h6, _, _, rfl, rfl, _, rfl, q2⟩
    refine ⟨_, h4, rfl, _, rfl, ?_⟩
    rcases hb with rfl | ⟨z, rfl⟩
    · refine mono (fun _ => ?_) (fun e => by cases e)
      refine second _ ?_
      have e : condV (some n) V.non h = leV n h := Bool.true_and _
      rw [e] at q
      exact q
    · refine ⟨_, h8, _, h4, _, _, rfl, rfl, _, rfl, ?_⟩
      refine mono (fun e1 => ?_) (fun e1 => ?_)
      · refine second _ ?_
        have e : condV (some n) (V.int z) h = leV n h := by
          show (decide ((n : Int) < z) && _) = _
          rw [show decide ((n : Int) < z) = true from e1, Bool.true_and]
        rw [e] at q
        exact q
      · have e : condV (some n) (V.int z) h = false := by
          show (decide ((n : Int) < z) && _) = _
          rw [show decide ((n : Int) < z) = false from e1, Bool.false_and]
        rw [e] at q
        exact q
def CrossB (T : Tab) (es fs : Rw) (i j r : Nat) : Prop := ∃ i' j', (i' < i ∨ (i' = i ∧ j' < j)) ∧ CrossAt T es fs i' j' r
theorem isMin_same {P P' : Nat → Prop} {o : Option Nat} (h : IsMin P o) (e : ∀ r, P' r ↔ P r) : IsMin P' o := by
  have : P' = P := funext fun r => propext (e r)
  rw [this]; exact h
theorem isMin_step {P P' : Nat → Prop} {o : Option Nat} {c : Nat} (h : IsMin P o) (e : ∀ r, P' r ↔ P r ∨ r = c) : IsMin P' (match o with
    | none => some c
    | some m => if c < m then some c else some m) := by
  cases o with
  | none => exact ⟨(e c).mpr (.inr rfl), fun r hr => by
      rcases (e r).mp hr with z | z
      · exact absurd z (h r)
      · omega⟩
  | some m =>
    by_cases hc : c < m
    · simp only [if_pos hc]
      exact ⟨(e c).mpr (.inr rfl), fun r hr => by
        rcases (e r).mp hr with z | z
        · have := h.2 r z; omega
        · omega⟩
    · simp only [if_neg hc]
      exact ⟨(e m).mpr (.inl h.1), fun r hr => by
        rcases (e r).mp hr with z | z
        · exact h.2 r z
        · omega⟩
/-- the value ahead of place i of an edge: None, or that piece's own rank -/
def ahead (T : Tab) (es : Rw) (i : Nat) (b : V) : Prop := (i = 0 ∧ b = .non) ∨ ∃ z, 0 < i ∧ es[i - 1]? = some z ∧ b = .int (T.own z)
theorem ahead_form {T : Tab} {es : Rw} {i : Nat} {b : V} (h : ahead T es i b) : b = .non ∨ ∃ z, b = .int z := by
  rcases h with ⟨_, e⟩ | ⟨z, _, _, e⟩
  · exact .inl e
  · exact .inr ⟨_, e⟩
theorem cond_cross {T : Tab} {es fs : Rw} {i j : Nat} {x y : Wd} {b h : V} (hx : es[i]? = some x) (hy : fs[j]? = some y) (hb : ahead T es i b) (hh : ahead T fs j h) (r : Nat) :
    CrossAt T es fs i j r ↔ T.rank x y = some r ∧ condV (T.rank x y) b h = true := by
  have e1 : ∀ r : Nat, (∀ z, 0 < i → es[i - 1]? = some z → (r : Int) < T.own z) ↔ ltV r b = true := fun r => by
    rcases hb with ⟨rfl, rfl⟩ | ⟨z, h0, hz, rfl⟩
    · exact ⟨fun _ => rfl, fun _ z hz => absurd hz (Nat.lt_irrefl _)⟩
    · constructor
      · intro q; exact decide_eq_true (q z h0 hz)
      · intro q z' _ hz'
        rw [hz] at hz'
        have := of_decide_eq_true q
        rw [← Option.some.inj hz']; exact this
  have e2 : ∀ r : Nat, (∀ z, 0 < j → fs[j - 1]? = some z → (r : Int) ≤ T.own z) ↔ leV r h = true := fun r => by
    rcases hh with ⟨rfl, rfl⟩ | ⟨z, h0, hz, rfl⟩
    · exact ⟨fun _ => rfl, fun _ z hz => absurd hz (Nat.lt_irrefl _)⟩
    · constructor
      · intro q; exact decide_eq_true (q z h0 hz)
      · intro q z' _ hz'
        rw [hz] at hz'
        have := of_decide_eq_true q
        rw [← Option.some.inj hz']; exact this
  constructor
  · rintro ⟨x', y', a1, a2, a3, a4, a5⟩
    rw [hx] at a1; rw [hy] at a2
    have b1 := Option.some.inj a1
    have b2 := Option.some.inj a2
    subst b1; subst b2
    refine ⟨a3, ?_⟩
    rw [a3]
    exact Bool.and_eq_true_iff.mpr ⟨(e1 r).mp a4, (e2 r).mp a5⟩
  · rintro ⟨a3, a4⟩
    rw [a3] at a4
    obtain ⟨c1, c2⟩ := Bool.and_eq_true_iff.mp a4
    exact ⟨x, y, hx, hy, a3, (e1 r).mpr c1, (e2 r).mpr c2⟩
theorem crossB_succ {T : Tab} {es fs : Rw} {i j r : Nat} : CrossB T es fs i (j + 1) r ↔ CrossB T es fs i j r ∨ CrossAt T es fs i j r := by
  constructor
  · rintro ⟨i', j', h, c⟩
    by_cases e : i' = i ∧ j' = j
    · exact .inr (by rw [← e.1, ← e.2]; exact c)
    · exact .inl ⟨i', j', by omega, c⟩
  · rintro (⟨i', j', h, c⟩ | c)
    · exact ⟨i', j', by omega, c⟩
    · exact ⟨i, j, by omega, c⟩
theorem crossB_row {T : Tab} {es fs : Rw} {i r : Nat} : CrossB T es fs (i + 1) 0 r ↔ CrossB T es fs i fs.length r := by
  constructor
  · rintro ⟨i', j', h, c⟩
    have hj : j' < fs.length := by obtain ⟨x, y, _, h2, _⟩ := c; exact (List.getElem?_eq_some_iff.mp h2).1
    exact ⟨i', j', by omega, c⟩
  · rintro ⟨i', j', h, c⟩
    exact ⟨i', j', by omega, c⟩
theorem crossB_all {T : Tab} {es fs : Rw} {r : Nat} : Cross T es fs r ↔ CrossB T es fs es.length 0 r := by
  constructor
  · rintro ⟨i', j', c⟩
    have hi : i' < es.length := by obtain ⟨x, y, h1, _⟩ := c; exact (List.getElem?_eq_some_iff.mp h1).1
    exact ⟨i', j', .inl hi, c⟩
  · rintro ⟨i', j', h, c⟩
    exact ⟨i', j', c⟩
theorem sc_joined_over : FnScope ["table", "one", "other", "found", "before", "x", "behind", "y", "rank"] ["table", "one", "other"] (defScope (top 22)) := ⟨rfl, rfl, rfl, by decide +kernel, rfl, by decide +kernel, by decide +kernel⟩
theorem ok_joined_over (T : Txt K mg CT CF) (h0 : Here K mg "joined_over" (top 22)) (d_edge : DefC P w K mg base 3 "edge" (spEdge CT)) (d_own_rank : DefC P w K mg base 2 "own_rank" (spOwn CT)) (m_rank : MetC P w K mg base 1 CT "rank" (spRank CT)) : DefC P w K mg base 4 "joined_over" (spJoinedOver CT) := by
  refine def_of h0 sc_joined_over (fun _ _ _ _ _ _ us hl => match us, hl with | [_, _, _], _ => rfl) (fun vs H Q E h => ?_) (fun f cdv A outer s H vs Q E hr h => ?_)
  · (first | (obtain ⟨_, rfl, _⟩ := h; rfl) | (obtain ⟨_, _, rfl, _⟩ := h; rfl) | (obtain ⟨_, _, _, rfl, _⟩ := h; rfl) | (obtain ⟨_, _, _, _, rfl, _⟩ := h; rfl) | (obtain ⟨_, _, _, _, _, rfl, _⟩ := h; rfl) | (obtain ⟨_, _, _, _, _, _, rfl, _⟩ := h; rfl) | (obtain ⟨_, _, _, _, _, _, _, rfl, _⟩ := h; rfl) | (obtain ⟨_, _, _, _, _, _, _, _, rfl, _⟩ := h; rfl))
  · have hu := hu_of hr
    obtain ⟨t, bp, T0, p, q0, rfl, h1, hp, hq, q⟩ := h
    refine ⟨_, (pss_cons (ps_set (i := 3) sc_joined_over.nd rfl (Or.inl rfl) pe_non)
      (pss_cons (ps_set (i := 4) sc_joined_over.nd rfl (Or.inl rfl) pe_non)
      (pss_cons (ps_for PassesOwn.never rfl (pi_list (pcl d_edge hr (by decide) (by rfl) (pa_cons (pv 0) (pa_cons (pv 1) (pa_cons pe_int pa_nil))))) (pg_name (i := 5) sc_joined_over.nd rfl (Or.inl rfl)) (pss_cons (ps_set (i := 6) sc_joined_over.nd rfl (Or.inl rfl) pe_non)
      (pss_cons (ps_for PassesOwn.never rfl (pi_list (pcl d_edge hr (by decide) (by rfl) (pa_cons (pv 0) (pa_cons (pv 2) (pa_cons pe_int pa_nil))))) (pg_name (i := 7) sc_joined_over.nd rfl (Or.inl rfl)) (pss_cons (ps_set (i := 8) sc_joined_over.nd rfl (Or.inl rfl) (pmt m_rank hr (by decide) (pv 0) (pa_cons (pv 5) (pa_cons (pv 7) pa_nil))))
      (pss_cons (ps_if (PW.pt (pw_and (pt_cmpR op_notN (pv 8) pe_non (nomark _)) (pw_and (PW.pt (pw_or (pt_cmpR op_isN (pv 4) pe_non (nomark _)) (pw_or1 (pt_cmpR op_lt (pv 8) (pv 4) (nomark _))))) (pw_and1 (PW.pt (pw_or (pt_cmpR op_isN (pv 6) pe_non (nomark _)) (pw_or1 (pt_cmpR op_le (pv 8) (pv 6) (nomark _))))))))) (pss_one (ps_if (PW.pt (pw_or (pt_cmpR op_isN (pv 3) pe_non (nomark _)) (pw_or1 (pt_cmpR op_lt (pv 8) (pv 3) (nomark _))))) (pss_one (ps_set (i := 3) sc_joined_over.nd rfl (Or.inl rfl) (pv 8))) pss_nil)) pss_nil)
      (pss_one (ps_set (i := 6) sc_joined_over.nd rfl (Or.inl rfl) (pcl d_own_rank hr (by decide) (by rfl) (pa_cons (pv 0) (pa_cons (pv 7) pa_nil))))))))
      (pss_one (ps_set (i := 4) sc_joined_over.nd rfl (Or.inl rfl) (pcl d_own_rank hr (by decide) (by rfl) (pa_cons (pv 0) (pa_cons (pv 5) pa_nil))))))))
      (pss_one (ps_ret (pv 3)))))), ?_⟩
    refine ⟨_, rfl, _, rfl, t, bp, T0, p, true, rfl, h1, hp, fun es ea H1 he n1 hea => ?_⟩
    obtain ⟨fs, hf⟩ := edge_ex h1.ok false q0 hq
    refine ⟨ea, rfl, ⟨_, SqL.of hea⟩, for_list (xs := es.map vS) (fun i σ' H' => ∃ o b x5 x6 x7 x8, σ' = [some (V.ref t), some (vS p), some (vS q0), some (optN o), some b, x5, x6, x7, x8] ∧ Same H1 H' ∧ ahead T0 es i b ∧ IsMin (CrossB T0 es fs i 0) o)
      ⟨none, _, _, _, _, _, rfl, Same.refl _, .inl ⟨rfl, rfl⟩, fun r ⟨i', j', z, _⟩ => by omega⟩ (fun i σ' H' _ z => by obtain ⟨_, _, _, _, _, _, _, s2, _⟩ := z; exact SqL.of (s2 _ _ hea)) ?_ ?_⟩
    · rintro i x0 σ' H2 hx0 ⟨o, b, x5, x6, x7, x8, rfl, s2, hb, ho⟩
      obtain ⟨x, hx, rfl⟩ := get_vS hx0
      have hxm : x ∈ T0.pieces := edge_mem h1.ok he hp x (List.mem_of_getElem? hx)
      have s12 := n1.2.trans s2
      refine ⟨_, rfl, _, rfl, t, bp, T0, q0, false, rfl, h1.same s12, hq, fun fs' fa H3 hf' n3 hfa => ?_⟩
      have ef := edge_uniq hf hf'
      subst ef
      refine ⟨fa, rfl, ⟨_, SqL.of hfa⟩, for_list (xs := fs.map vS) (fun j σ' H' => ∃ o h x7 x8, σ' = [some (V.ref t), some (vS p), some (vS q0), some (optN o), some b, some (vS x), some h, x7, x8] ∧ Same H3 H' ∧ ahead T0 fs j h ∧ IsMin (CrossB T0 es fs i j) o)
        ⟨o, _, _, _, rfl, Same.refl _, .inl ⟨rfl, rfl⟩, ho⟩ (fun j σ' H' _ z => by obtain ⟨_, _, _, _, _, s4, _⟩ := z; exact SqL.of (s4 _ _ hfa)) ?_ ?_⟩
      · rintro j y0 σ' H4 hy0 ⟨o, h, x7, x8, rfl, s4, hh, ho⟩
        obtain ⟨y, hy, rfl⟩ := get_vS hy0
        have hym : y ∈ T0.pieces := edge_mem h1.ok hf hq y (List.mem_of_getElem? hy)
        have s14 := s12.trans (n3.2.trans s4)
        have t4 := h1.same s14
        obtain ⟨dx, bt, kr, kp, e1, e2, e3, e4, e5⟩ := t4.ex
        refine ⟨_, rfl, t, dx, _, rfl, e1, tfl_no (by decide +kernel), _, rfl, _, rfl, t, bp, T0, x, y, rfl, t4, fun H5 s5 => ?_⟩
        have s15 := s14.trans s5
        have t5 := h1.same s15
        have back : ∀ o', IsMin (CrossB T0 es fs i (j + 1)) o' → tAsg (tCall (spOwn CT) [] E0 (tCons (tVar 0) (tCons (tVar 7) tNil))) (gName 6) { nx := fun σ' H' => ∃ o h x7 x8, σ' = [some (V.ref t), some (vS p), some (vS q0), some (optN o), some b, some (vS x), some h, x7, x8] ∧ Same H3 H' ∧ ahead T0 fs (j + 1) h ∧ IsMin (CrossB T0 es fs i (j + 1)) o, rt := Q }
            [some (V.ref t), some (vS p), some (vS q0), some (optN o'), some b, some (vS x), some h, some (vS y), some (optN (T0.rank x y))] H5 := fun o' ho' => by
          refine ⟨_, rfl, _, rfl, t, bp, T0, y, rfl, t5, hym, o', _, _, _, rfl, s4.trans s5, .inr ⟨y, Nat.succ_pos _, hy, rfl⟩, ho'⟩
        refine cond_ok (b := b) (h := h) rfl rfl rfl (ahead_form hb) (ahead_form hh) ?_
        have cc := fun r => cond_cross (r := r) hx hy hb hh
        cases hr' : T0.rank x y with
        | none =>
          rw [hr'] at back cc
          rw [if_neg (show ¬ condV none b h = true from Bool.false_ne_true)]
          refine back o (isMin_same ho fun r => ?_)
          rw [crossB_succ]
          exact ⟨fun z => z.elim id (fun w => nomatch ((cc r).mp w).1), .inl⟩
        | some r =>
          rw [hr'] at back cc
          by_cases hc : condV (some r) b h = true
          · rw [if_pos hc]
            have step : ∀ r', CrossB T0 es fs i (j + 1) r' ↔ CrossB T0 es fs i j r' ∨ r' = r := fun r' => by
              rw [crossB_succ]
              refine ⟨fun z => z.imp id fun w => ?_, fun z => z.imp id fun w => ?_⟩
              · exact (Option.some.inj ((cc r').mp w).1).symm
              · rw [w]; exact (cc r).mpr ⟨rfl, hc⟩
            have st := isMin_step ho step
            refine ⟨_, rfl, rfl, _, rfl, ?_⟩
            cases o with
            | none => exact ⟨_, rfl, back (some r) st⟩
            | some m =>
              refine ⟨_, rfl, _, rfl, _, _, rfl, rfl, _, rfl, ?_⟩
              refine ite2 (fun hl => ?_) (fun hl => ?_)
              · have hl' : r < m := by have := of_decide_eq_true hl; omega
                simp only [if_pos hl'] at st
                exact ⟨_, rfl, back (some r) st⟩
              · have hl' : ¬ r < m := fun z => hl (decide_eq_true (by omega))
                simp only [if_neg hl'] at st
                exact back (some m) st
          · rw [if_neg hc]
            refine back o (isMin_same ho fun r' => ?_)
            rw [crossB_succ]
            exact ⟨fun z => z.elim id fun w => absurd ((cc r').mp w).2 hc, .inl⟩
      · rintro σ' H4 ⟨o, h, x7, x8, rfl, s4, hh, ho⟩
        have s14 := s12.trans (n3.2.trans s4)
        refine ⟨_, rfl, _, rfl, t, bp, T0, x, rfl, h1.same s14, hxm, o, _, _, _, _, _, rfl, s2.trans (n3.2.trans s4), .inr ⟨x, Nat.succ_pos _, hx, rfl⟩, isMin_same ho fun r => ?_⟩
        rw [List.length_map]
        exact crossB_row
    · rintro σ' H2 ⟨o, b, x5, x6, x7, x8, rfl, s2, hb, ho⟩
      rw [List.length_map] at ho
      exact ⟨_, rfl, q o es fs H2 he hf (isMin_same ho fun r => crossB_all) (n1.2.trans s2)⟩
end
end JR
namespace JR
open PySem PySem.Spec PyProof.Rows L2 SX
section
variable {P : Program} {w : World} {K : PySem.W.Frag} {mg : Str → Option Value} {base : Heap} {CT CF : Addr}
theorem sc_stands_alone : FnScope ["table", "piece", "parts"] ["table", "piece"] (defScope (top 23)) := ⟨rfl, rfl, rfl, by decide +kernel, rfl, by decide +kernel, by decide +kernel⟩
theorem ok_stands_step (n : Nat) (T : Txt K mg CT CF) (h0 : Here K mg "stands_alone" (top 23)) (d_joined_over : DefC P w K mg base 4 "joined_over" (spJoinedOver CT)) (d_look_at_piece : DefC P w K mg base 2 "look_at_piece" (spLookPiece CT)) (d_own_rank : DefC P w K mg base 2 "own_rank" (spOwn CT)) (m_parts : MetC P w K mg base 2 CT "parts" (spParts CT)) (d_stands_alone : DefC P w K mg base (5 + n) "stands_alone" (spStands CT n)) : DefC P w K mg base (5 + n + 1) "stands_alone" (spStands CT (n + 1)) := by
  refine def_of h0 sc_stands_alone (fun _ _ _ _ _ _ us hl => match us, hl with | [_, _], _ => rfl) (fun vs H Q E h => ?_) (fun f cdv A outer s H vs Q E hr h => ?_)
  · (first | (obtain ⟨_, rfl, _⟩ := h; rfl) | (obtain ⟨_, _, rfl, _⟩ := h; rfl) | (obtain ⟨_, _, _, rfl, _⟩ := h; rfl) | (obtain ⟨_, _, _, _, rfl, _⟩ := h; rfl) | (obtain ⟨_, _, _, _, _, rfl, _⟩ := h; rfl) | (obtain ⟨_, _, _, _, _, _, rfl, _⟩ := h; rfl) | (obtain ⟨_, _, _, _, _, _, _, rfl, _⟩ := h; rfl) | (obtain ⟨_, _, _, _, _, _, _, _, rfl, _⟩ := h; rfl))
  · have hu := hu_of hr
    obtain ⟨t, bp, T0, p, rfl, h1, hp, hl, q⟩ := h
    refine ⟨_, (pss_cons (ps_expr (pcl d_look_at_piece hr (by omega) (by rfl) (pa_cons (pv 0) (pa_cons (pv 1) pa_nil))))
      (pss_cons (ps_set (i := 2) sc_stands_alone.nd rfl (Or.inl rfl) (pmt m_parts hr (by omega) (pv 0) (pa_cons (pv 1) pa_nil)))
      (pss_cons (ps_if (pt_cmpR op_isN (pv 2) pe_non (nomark _)) (pss_one (ps_ret pe_bl)) pss_nil)
      (pss_cons (ps_if (PW.pt (pw_or (pt_not (pt_val (pcl d_stands_alone hr (by omega) (by rfl) (pa_cons (pv 0) (pa_cons (pe_ix ix_tup (pv 2) pe_int (fun _ _ => rfl)) pa_nil))))) (pw_or1 (pt_not (pt_val (pcl d_stands_alone hr (by omega) (by rfl) (pa_cons (pv 0) (pa_cons (pe_ix ix_tup (pv 2) pe_int (fun _ _ => rfl)) pa_nil)))))))) (pss_one (ps_ret pe_bl)) pss_nil)
      (pss_one (ps_ret (pe_cmpR op_eq (pcl d_joined_over hr (by omega) (by rfl) (pa_cons (pv 0) (pa_cons (pe_ix ix_tup (pv 2) pe_int (fun _ _ => rfl)) (pa_cons (pe_ix ix_tup (pv 2) pe_int (fun _ _ => rfl)) pa_nil)))) (pcl d_own_rank hr (by omega) (by rfl) (pa_cons (pv 0) (pa_cons (pv 1) pa_nil))) (nomark _)))))))), ?_⟩
    refine ⟨_, rfl, _, rfl, t, bp, T0, p, rfl, h1, hp, ?_⟩
    obtain ⟨dx, bt, kr, kp, e1, e2, e3, e4, e5⟩ := h1.ex
    refine ⟨_, rfl, t, dx, _, rfl, e1, tfl_no (by decide +kernel), _, rfl, t, bp, T0, p, rfl, h1, hp, fun hn => ?_, fun qa r hr0 hq => ?_⟩
    · refine ⟨_, rfl, rfl, _, rfl, ?_⟩
      have ha : alone T0 p := by
        rcases piece_cases hp with ⟨d, hd, e⟩ | ⟨k, r, hr0, e⟩
        · rw [e]; exact sign_alone h1.ok hd
        · rw [e, parts_row h1.ok hr0] at hn; cases hn
      have := q H (Same.refl H)
      rw [decide_eq_true ha] at this
      exact this
    · obtain ⟨k, hk, ek⟩ := parts_some h1.ok hp hr0
      have m1 := left_mem h1.ok hk
      have m2 := right_mem h1.ok hk
      have l1 := (piece_len h1.ok _ m1).1
      have l2 := (piece_len h1.ok _ m2).1
      have lj : p.length = r.1.length + r.2.length := by rw [ek]; unfold jn; rw [List.length_append]
      have a0 : atI [vS r.1, vS r.2] 0 = some (vS r.1) := rfl
      have a1 : atI [vS r.1, vS r.2] 1 = some (vS r.2) := rfl
      refine ⟨_, rfl, rfl, _, rfl, ?_⟩
      refine ⟨_, rfl, _, rfl, qa, _, _, _, rfl, rfl, SqT.of hq, a0, t, bp, T0, r.1, rfl, h1, m1, by omega, fun H1 s1 => ?_⟩
      have h2 := h1.same s1
      refine ⟨_, rfl, ?_⟩
      by_cases ha1 : alone T0 r.1
      · rw [decide_eq_true ha1]
        refine ⟨_, rfl, _, rfl, qa, _, _, _, rfl, rfl, SqT.of (s1 _ _ hq), a1, t, bp, T0, r.2, rfl, h2, m2, by omega, fun H2 s2 => ?_⟩
        have s12 := s1.trans s2
        have h3 := h1.same s12
        refine ⟨_, rfl, ?_⟩
        by_cases ha2 : alone T0 r.2
        · rw [decide_eq_true ha2]
          refine ⟨_, rfl, _, rfl, qa, _, _, _, rfl, rfl, SqT.of (s12 _ _ hq), a0, _, rfl, qa, _, _, _, rfl, rfl, SqT.of (s12 _ _ hq), a1, t, bp, T0, r.1, r.2, rfl, h3, m1, m2, fun o es fs H3 he hf ho s3 => ?_⟩
          have s13 := s12.trans s3
          refine ⟨_, rfl, _, rfl, t, bp, T0, p, rfl, h1.same s13, hp, by cases o <;> rfl, ?_⟩
          have key := min_own h1.ok hk he hf ha1 ha2 ho
          have := q H3 s13
          have e : decide (optN o = V.int (T0.own p)) = decide (alone T0 p) := by
            have ow : T0.own p = (k : Int) := by rw [ek]; exact own_row h1.ok hk
            rw [ow]
            by_cases ha : alone T0 p
            · rw [decide_eq_true ha]
              have := key.mpr (by rw [← ek]; exact ha)
              rw [this]
              exact decide_eq_true rfl
            · rw [decide_eq_false ha]
              refine decide_eq_false fun z => ha ?_
              cases o with
              | none => cases z
              | some m =>
                have : (m : Int) = (k : Int) := V.int.inj z
                have hm : m = k := by omega
                rw [ek]
                exact key.mp (by rw [hm])
          rw [e]
          exact this
        · rw [decide_eq_false ha2]
          have na : ¬ alone T0 p := fun ha => ha2 (alone_parts h1.ok hk (by rw [← ek]; exact ha)).2.2
          have := q H2 s12
          rw [decide_eq_false na] at this
          exact this
      · rw [decide_eq_false ha1]
        have na : ¬ alone T0 p := fun ha => ha1 (alone_parts h1.ok hk (by rw [← ek]; exact ha)).2.1
        have := q H1 s1
        rw [decide_eq_false na] at this
        exact this
theorem ok_stands_alone (T : Txt K mg CT CF) (h0 : Here K mg "stands_alone" (top 23)) (d_joined_over : DefC P w K mg base 4 "joined_over" (spJoinedOver CT)) (d_look_at_piece : DefC P w K mg base 2 "look_at_piece" (spLookPiece CT)) (d_own_rank : DefC P w K mg base 2 "own_rank" (spOwn CT)) (m_parts : MetC P w K mg base 2 CT "parts" (spParts CT)) : DefC P w K mg base 21 "stands_alone" (spStands CT 16) := by
  have key : ∀ n : Nat, DefC P w K mg base (5 + n) "stands_alone" (spStands CT n) := by
    intro n
    induction n with
    | zero =>
      refine def_of h0 sc_stands_alone (fun _ _ _ _ _ _ us hl => match us, hl with | [_, _], _ => rfl) (fun vs H Q E h => ?_) (fun f cdv A outer s H vs Q E hr h => ?_)
      · (first | (obtain ⟨_, rfl, _⟩ := h; rfl) | (obtain ⟨_, _, rfl, _⟩ := h; rfl) | (obtain ⟨_, _, _, rfl, _⟩ := h; rfl) | (obtain ⟨_, _, _, _, rfl, _⟩ := h; rfl) | (obtain ⟨_, _, _, _, _, rfl, _⟩ := h; rfl) | (obtain ⟨_, _, _, _, _, _, rfl, _⟩ := h; rfl) | (obtain ⟨_, _, _, _, _, _, _, rfl, _⟩ := h; rfl) | (obtain ⟨_, _, _, _, _, _, _, _, rfl, _⟩ := h; rfl))
      · exfalso
        obtain ⟨t, bp, T0, p, _, h1, hp, hl, _⟩ := h
        have := piece_len h1.ok p hp
        omega
    | succ n ih => exact ok_stands_step n T h0 d_joined_over d_look_at_piece d_own_rank m_parts ih
  exact key 16
end
end JR
namespace JR
open PySem PySem.Spec PyProof.Rows L2 SX
section
variable {P : Program} {w : World} {K : PySem.W.Frag} {mg : Str → Option Value} {base : Heap} {CT CF : Addr}
theorem sc_Follows_init : FnScope ["self", "table", "piece"] ["self", "table"] (defScope (inClass (top 25) 0)) := ⟨rfl, rfl, rfl, by decide +kernel, rfl, by decide +kernel, by decide +kernel⟩
theorem ok_Follows_init (T : Txt K mg CT CF) (h0 : HereI K mg "Follows" CF "Follows.__init__" (inClass (top 25) 0)) (d_stands_alone : DefC P w K mg base 21 "stands_alone" (spStands CT 16)) (m_pieces : MetC P w K mg base 1 CT "pieces" (spPieces CT)) : MakC P w K mg base 22 "Follows" CF (spFInit CT CF) := by
  refine mak_of h0 sc_Follows_init (fun _ _ _ _ _ _ us hl => match us, hl with | [_, _], _ => rfl) (fun vs H Q E h => ?_) (fun f cdv A outer s H vs Q E hr h => ?_)
  · (first | (obtain ⟨_, rfl, _⟩ := h; rfl) | (obtain ⟨_, _, rfl, _⟩ := h; rfl) | (obtain ⟨_, _, _, rfl, _⟩ := h; rfl) | (obtain ⟨_, _, _, _, rfl, _⟩ := h; rfl) | (obtain ⟨_, _, _, _, _, rfl, _⟩ := h; rfl) | (obtain ⟨_, _, _, _, _, _, rfl, _⟩ := h; rfl) | (obtain ⟨_, _, _, _, _, _, _, rfl, _⟩ := h; rfl) | (obtain ⟨_, _, _, _, _, _, _, _, rfl, _⟩ := h; rfl))
  · have hu := hu_of hr
    obtain ⟨x, t, bp, T0, dx, rfl, hx, h1, q⟩ := h
    have xt : t ≠ x := by
      obtain ⟨dx', bt, kr, kp, e1, _⟩ := h1.ex
      refine ne_of e1 hx ?_
      intro z
      injection z with _ _ z3
      exact tfl_ne z3
    refine ⟨_, (pss_cons (ps_fld (pv 0) (pv 1) rfl)
      (pss_cons (ps_fld (pv 0) pe_dnewK rfl)
      (pss_cons (ps_for PassesOwn.never rfl (pi_list (pmt0 m_pieces hr (by decide) (pv 1))) (pg_name (i := 2) sc_Follows_init.nd rfl (Or.inl rfl)) (pss_one (ps_dput hu (pe_fld (pv 0) rfl) (pv 2) (pcl d_stands_alone hr (by decide) (by rfl) (pa_cons (pv 1) (pa_cons (pv 2) pa_nil))) rfl)))
      (pss_one (ps_fld (pv 0) pe_dnewT rfl))))), ?_⟩
    -- self.kept_table = table; self.kept_alone = {}
    refine ⟨_, rfl, _, rfl, x, CF, dx, [], rfl, hx, T.clF, T.nF.1, (by show 0 < 1000; decide), ?_⟩
    intro ka hka
    have xka : x ≠ ka := ne_of_none upd_same hka
    have ka0 : H ka = none := by rw [upd_ne xka.symm] at hka; exact hka
    refine ⟨_, rfl, x, CF, dx, _, rfl, (by rw [upd_ne xka]; exact upd_same), T.clF, T.nF.2.1, (by show 1 < 1000; decide), ?_⟩
    have b1 : But x H (upd (upd (upd H x (.ins CF dx (putF "kept_table" (.ref t) []))) ka (.dK [])) x (.ins CF dx (putF "kept_alone" (.ref ka) (putF "kept_table" (.ref t) [])))) := by
      intro b o hb hbo
      rw [upd_ne hb, upd_ne (ne_of_none hbo ka0), upd_ne hb]; exact hbo
    -- for piece in table.pieces()
    have h2 := h1.butI b1 hx
    obtain ⟨dx2, bt, kr, kp, e1, e2, e3, e4, e5⟩ := h2.ex
    refine ⟨_, rfl, t, dx2, _, rfl, e1, tfl_no (by decide +kernel), t, bp, T0, rfl, h2, fun lp H1 n1 hlp => ?_⟩
    have np := nodup_pieces h1.ok
    have l36 := h1.len_pieces
    have b2 : But x H H1 := fun b o hb hbo => n1.2 _ _ (b1 b o hb hbo)
    refine ⟨lp, rfl, ⟨_, SqL.of hlp⟩, for_list (xs := T0.pieces.map vS) (fun i σ' H' => (∃ y, σ' = [some (V.ref x), some (V.ref t), y]) ∧ But x H H' ∧ LstAt H' lp T0.pieces ∧ H' x = some (.ins CF dx (putF "kept_alone" (.ref ka) (putF "kept_table" (.ref t) []))) ∧ H' ka = some (.dK (dOf (fun p => .bl (decide (alone T0 p))) (T0.pieces.take i))))
      ⟨⟨_, rfl⟩, b2, hlp, n1.2 _ _ upd_same, n1.2 _ _ (by rw [upd_ne xka.symm, upd_same]; rfl)⟩ (fun i σ' H' _ z => SqL.of z.2.2.1) ?_ ?_⟩
    · rintro i y σ' H' hy ⟨⟨y0, rfl⟩, b3, hl3, hx3, hk3⟩
      obtain ⟨p, hp, rfl⟩ := get_vS hy
      have hpm := List.mem_of_getElem? hp
      have lenp := piece_len h1.ok p hpm
      refine ⟨_, rfl, _, rfl, t, bp, T0, p, rfl, h1.butI b3 hx, hpm, lenp.2, fun H2 s2 => ?_⟩
      have hx4 := s2 _ _ hx3
      have hk4 := s2 _ _ hk3
      refine ⟨_, rfl, x, CF, dx, _, _, rfl, hx4, T.clF, T.nF.2.1, (by rw [lookup_putF, if_pos rfl]), _, rfl, ka, _, rfl, DPut.k (k := Sum.inr (S p)) hk4 (by unfold dOf; rw [List.length_map, List.length_take]; exact smallLt (by omega)), ?_⟩
      have lka : lp ≠ ka := ne_of hl3 hk3 (by intro z; cases z)
      refine ⟨⟨_, rfl⟩, But.mut (fun b o hb hbo => s2 _ _ (b3 b o hb hbo)) ka0, ?_, by rw [upd_ne xka]; exact hx4, ?_⟩
      · unfold LstAt; rw [upd_ne lka]; exact s2 _ _ hl3
      · rw [upd_same, List.take_add_one, hp]
        exact congrArg (fun z => some (HO.dK z)) (dOf_put (f := fun p => .bl (decide (alone T0 p))) (nodup_take_no np hp))
    · rintro σ' H' ⟨⟨y0, rfl⟩, b3, hl3, hx3, hk3⟩
      rw [List.length_map, List.take_length] at hk3
      -- self.kept_truths = {}
      intro d hd
      have xd : x ≠ d := ne_of_none hx3 hd
      have kd : ka ≠ d := ne_of_none hk3 hd
      refine ⟨_, rfl, x, CF, dx, _, rfl, (by rw [upd_ne xd]; exact hx3), T.clF, T.nF.2.2, (by exact Nat.lt_of_le_of_lt (length_putF _ _ _) (by show 2 < 1000; decide)), ?_⟩
      have d0 : H d = none := by
        cases e : H d with
        | none => rfl
        | some o => rw [b3 d o xd.symm e] at hd; cases hd
      have b4 : But x H (upd (upd H' d (.dT [])) x (.ins CF dx (ffl t ka d))) := by
        intro b o hb hbo
        rw [upd_ne hb, upd_ne (ne_of_none hbo d0)]; exact b3 b o hb hbo
      refine q d _ b4 ⟨h1.butI b4 hx, ⟨dx, ka, [], upd_same, ?_, ?_, List.nodup_nil, fun kv hkv => by cases hkv⟩, ?_⟩
      · rw [upd_ne xka.symm, upd_ne kd]; exact hk3
      · rw [upd_ne xd.symm, upd_same]
      · obtain ⟨_, _, _, _, _, _, e6, _⟩ := h1.ex
        exact ne_of_none e6 d0
theorem sc_Follows_table : FnScope ["self"] ["self"] (defScope (inClass (top 25) 1)) := ⟨rfl, rfl, rfl, by decide +kernel, rfl, by decide +kernel, by decide +kernel⟩
theorem ok_Follows_table (T : Txt K mg CT CF) (h0 : HereM K CF "table" "Follows.table" (inClass (top 25) 1))  : MetC P w K mg base 1 CF "table" (spFTable CT CF) := by
  refine met_of h0 sc_Follows_table (fun _ _ _ _ _ _ us hl => match us, hl with | [_], _ => rfl) (fun vs H Q E h => ?_) (fun f cdv A outer s H vs Q E hr h => ?_)
  · (first | (obtain ⟨_, rfl, _⟩ := h; rfl) | (obtain ⟨_, _, rfl, _⟩ := h; rfl) | (obtain ⟨_, _, _, rfl, _⟩ := h; rfl) | (obtain ⟨_, _, _, _, rfl, _⟩ := h; rfl) | (obtain ⟨_, _, _, _, _, rfl, _⟩ := h; rfl) | (obtain ⟨_, _, _, _, _, _, rfl, _⟩ := h; rfl) | (obtain ⟨_, _, _, _, _, _, _, rfl, _⟩ := h; rfl) | (obtain ⟨_, _, _, _, _, _, _, _, rfl, _⟩ := h; rfl))
  · have hu := hu_of hr
    obtain ⟨f0, t, bp, d, T0, rfl, hF, q⟩ := h
    obtain ⟨dx, ka, kvs, e1, e2, e3, e4⟩ := hF.ex
    refine ⟨_, (pss_one (ps_ret (pe_fld (pv 0) rfl))), ?_⟩
    exact ⟨_, rfl, f0, CF, dx, _, _, rfl, e1, T.clF, T.nF.1, ffl_table, q⟩
theorem sc_Follows_is_alone : FnScope ["self", "piece"] ["self", "piece"] (defScope (inClass (top 25) 2)) := ⟨rfl, rfl, rfl, by decide +kernel, rfl, by decide +kernel, by decide +kernel⟩
theorem ok_Follows_is_alone (T : Txt K mg CT CF) (h0 : HereM K CF "is_alone" "Follows.is_alone" (inClass (top 25) 2))  : MetC P w K mg base 1 CF "is_alone" (spIsAlone CT CF) := by
  refine met_of h0 sc_Follows_is_alone (fun _ _ _ _ _ _ us hl => match us, hl with | [_, _], _ => rfl) (fun vs H Q E h => ?_) (fun f cdv A outer s H vs Q E hr h => ?_)
  · (first | (obtain ⟨_, rfl, _⟩ := h; rfl) | (obtain ⟨_, _, rfl, _⟩ := h; rfl) | (obtain ⟨_, _, _, rfl, _⟩ := h; rfl) | (obtain ⟨_, _, _, _, rfl, _⟩ := h; rfl) | (obtain ⟨_, _, _, _, _, rfl, _⟩ := h; rfl) | (obtain ⟨_, _, _, _, _, _, rfl, _⟩ := h; rfl) | (obtain ⟨_, _, _, _, _, _, _, rfl, _⟩ := h; rfl) | (obtain ⟨_, _, _, _, _, _, _, _, rfl, _⟩ := h; rfl))
  · have hu := hu_of hr
    obtain ⟨f0, t, bp, d, T0, u, rfl, hF, q⟩ := h
    obtain ⟨dx, ka, kvs, e1, e2, e3, e4⟩ := hF.ex
    refine ⟨_, (pss_one (ps_ret (pe_dget2 hu (pe_fld (pv 0) rfl) (pv 1) pe_bl ⟨rfl, rfl, rfl, rfl⟩))), ?_⟩
    refine ⟨_, rfl, f0, CF, dx, _, _, rfl, e1, T.clF, T.nF.2.1, ffl_alone, ka, rfl, .inl ⟨_, .of e2⟩, _, rfl, _, DGet.k (k := Sum.inr (S u)) e2, ?_⟩
    unfold aloneD
    rw [val_dOf]
    by_cases hm : u ∈ T0.pieces
    · rw [if_pos hm]
      by_cases ha : alone T0 u
      · rw [decide_eq_true (show u ∈ T0.pieces ∧ alone T0 u from ⟨hm, ha⟩)] at q
        rw [decide_eq_true ha]; exact q
      · rw [decide_eq_false (fun z : u ∈ T0.pieces ∧ alone T0 u => ha z.2)] at q
        rw [decide_eq_false ha]; exact q
    · rw [if_neg hm]
      rw [decide_eq_false (fun z : u ∈ T0.pieces ∧ alone T0 u => hm z.1)] at q
      exact q
end
end JR
namespace JR
open PySem PySem.Spec PyProof.Rows L2 SX
section
variable {P : Program} {w : World} {K : PySem.W.Frag} {mg : Str → Option Value} {base : Heap} {CT CF : Addr}
theorem sc_Follows_fits : FnScope ["self", "left", "right"] ["self", "left", "right"] (defScope (inClass (top 25) 3)) := ⟨rfl, rfl, rfl, by decide +kernel, rfl, by decide +kernel, by decide +kernel⟩
theorem ok_Follows_fits (T : Txt K mg CT CF) (h0 : HereM K CF "fits" "Follows.fits" (inClass (top 25) 3)) (d_joined_over : DefC P w K mg base 4 "joined_over" (spJoinedOver CT)) : MetC P w K mg base 5 CF "fits" (spFits CT CF) := by
  refine met_of h0 sc_Follows_fits (fun _ _ _ _ _ _ us hl => match us, hl with | [_, _, _], _ => rfl) (fun vs H Q E h => ?_) (fun f cdv A outer s H vs Q E hr h => ?_)
  · (first | (obtain ⟨_, rfl, _⟩ := h; rfl) | (obtain ⟨_, _, rfl, _⟩ := h; rfl) | (obtain ⟨_, _, _, rfl, _⟩ := h; rfl) | (obtain ⟨_, _, _, _, rfl, _⟩ := h; rfl) | (obtain ⟨_, _, _, _, _, rfl, _⟩ := h; rfl) | (obtain ⟨_, _, _, _, _, _, rfl, _⟩ := h; rfl) | (obtain ⟨_, _, _, _, _, _, _, rfl, _⟩ := h; rfl) | (obtain ⟨_, _, _, _, _, _, _, _, rfl, _⟩ := h; rfl))
  · have hu := hu_of hr
    obtain ⟨f0, t, bp, d, T0, p, q0, rfl, hF, hp, hq, q⟩ := h
    obtain ⟨dx, ka, kvs, e1, e2, e3, e4⟩ := hF.ex
    have ok := hF.tab.ok
    have fin : ∀ b, fit T0 p q0 = b → Q (.bl b) H := fun b e => by rw [← e]; exact q H ⟨But.refl _ _, hF⟩
    refine ⟨_, (pss_cons (ps_if (PW.pt (pw_or (pt_not (pt_val (pe_dget hu (pe_fld (pv 0) rfl) (pv 1) (fun _ _ => rfl)))) (pw_or1 (pt_not (pt_val (pe_dget hu (pe_fld (pv 0) rfl) (pv 2) (fun _ _ => rfl))))))) (pss_one (ps_ret pe_bl)) pss_nil)
      (pss_cons (ps_if (pt_cmp (pc_dnotin hu (pe_tup (pa_cons (pv 1) (pa_cons (pv 2) pa_nil))) (pe_fld (pv 0) rfl))) (pss_one (ps_dput hu (pe_fld (pv 0) rfl) (pe_tup (pa_cons (pv 1) (pa_cons (pv 2) pa_nil))) (pe_cmpR op_isN (pcl d_joined_over hr (by decide) (by rfl) (pa_cons (pe_fld (pv 0) rfl) (pa_cons (pv 1) (pa_cons (pv 2) pa_nil)))) pe_non (nomark _)) rfl)) pss_nil)
      (pss_one (ps_ret (pe_dget hu (pe_fld (pv 0) rfl) (pe_tup (pa_cons (pv 1) (pa_cons (pv 2) pa_nil))) (fun _ _ => rfl)))))), ?_⟩
    refine ⟨_, rfl, f0, CF, dx, _, _, rfl, e1, T.clF, T.nF.2.1, ffl_alone, _, rfl, ka, _, rfl, get_alone e2 hp, _, rfl, ?_⟩
    by_cases ha : alone T0 p
    rotate_left
    · rw [decide_eq_false ha]
      refine fin false ?_
      cases e : fit T0 p q0 with
      | false => rfl
      | true => exact absurd (fit_alone ok e).1 ha
    rw [decide_eq_true ha]
    refine ⟨_, rfl, f0, CF, dx, _, _, rfl, e1, T.clF, T.nF.2.1, ffl_alone, _, rfl, ka, _, rfl, get_alone e2 hq, _, rfl, ?_⟩
    by_cases hb : alone T0 q0
    rotate_left
    · rw [decide_eq_false hb]
      refine fin false ?_
      cases e : fit T0 p q0 with
      | false => rfl
      | true => exact absurd (fit_alone ok e).2 hb
    rw [decide_eq_true hb]
    -- if (left, right) not in self.kept_truths
    refine ⟨_, rfl, _, rfl, by show 2 ≤ sizeLine; decide, fun z hz => ?_⟩
    have s1 := same_new (o := .tup [vS p, vS q0]) hz
    refine ⟨_, rfl, f0, CF, dx, _, _, rfl, s1 _ _ e1, T.clF, T.nF.2.2, ffl_truths, d, _, rfl, DGet.t (k := kP p q0) (s1 _ _ e3) upd_same, _, rfl, ?_⟩
    have F1 := hF.same s1
    cases hv : valV kvs (kP p q0) with
    | some v =>
      have ev := memo_get e4 hv
      subst ev
      refine iteF ?_
      refine ⟨_, rfl, f0, CF, dx, _, _, rfl, s1 _ _ e1, T.clF, T.nF.2.2, ffl_truths, _, rfl, _, rfl, by show 2 ≤ sizeLine; decide, fun z2 hz2 => ?_⟩
      have s2 := same_new (o := .tup [vS p, vS q0]) hz2
      refine ⟨d, _, rfl, ?_, q _ ⟨(s1.trans s2).but d, F1.same s2⟩⟩
      have := DGet.t (k := kP p q0) (s2 _ _ (s1 _ _ e3)) (upd_same (H := upd H z (.tup [vS p, vS q0])) (a := z2) (o := .tup [vS p, vS q0]))
      rw [hv] at this
      exact this
    | none =>
      refine iteT ?_
      refine ⟨_, rfl, f0, CF, dx, _, _, rfl, s1 _ _ e1, T.clF, T.nF.1, ffl_table, _, rfl, _, rfl, t, bp, T0, p, q0, rfl, F1.tab, hp, hq, fun o es fs H2 he hf ho s2 => ?_⟩
      have F2 := F1.same s2
      have s12 := s1.trans s2
      have eo : decide (optN o = .non) = fit T0 p q0 := by
        have k1 := min_none ok he hf hp hq ha hb ho
        have k2 := fit_iff ok ha hb
        cases hfi : fit T0 p q0 with
        | true => rw [k1.mpr (k2.mp hfi)]; exact decide_eq_true rfl
        | false =>
          refine decide_eq_false fun z => ?_
          cases o with
          | none => have := k2.mpr (k1.mp rfl); rw [hfi] at this; cases this
          | some m => cases z
      have hml := memo_len e4
      have l36 := hF.tab.len_pieces
      have hsz : kvs.length < sizeLine := smallLt (Nat.lt_of_le_of_lt hml (Nat.lt_of_le_of_lt (Nat.mul_le_mul l36 l36) (by decide)))
      refine ⟨rfl, _, rfl, f0, CF, dx, _, _, rfl, s12 _ _ e1, T.clF, T.nF.2.2, ffl_truths, _, rfl, _, rfl, by show 2 ≤ sizeLine; decide, fun z2 hz2 => ?_⟩
      have s3 := same_new (o := .tup [vS p, vS q0]) hz2
      have s13 := s12.trans s3
      refine ⟨d, _, rfl, DPut.t (k := kP p q0) (s13 _ _ e3) upd_same hsz, ?_⟩
      rw [eo]
      have F3 := (F2.same s3).put (memo_put e4 hp hq hv)
      have b3 : But d H (upd (upd H2 z2 (.tup [vS p, vS q0])) d (.dT (putK kvs (kP p q0) (.bl (fit T0 p q0))))) := (s13.but d).trans but_upd
      have fd : f0 ≠ d := ne_of e1 e3 (by intro z; cases z)
      refine ⟨_, rfl, f0, CF, dx, _, _, rfl, b3 _ _ fd e1, T.clF, T.nF.2.2, ffl_truths, _, rfl, _, rfl, by show 2 ≤ sizeLine; decide, fun z3 hz3 => ?_⟩
      have s4 := same_new (o := .tup [vS p, vS q0]) hz3
      refine ⟨d, _, rfl, ?_, q _ ⟨b3.trans (s4.but d), F3.same s4⟩⟩
      have := DGet.t (k := kP p q0) (s4 _ _ upd_same) (upd_same (a := z3) (o := .tup [vS p, vS q0]))
      rw [valV_put, if_pos rfl] at this
      exact this
theorem sc_Follows_after : FnScope ["self", "piece", "other"] ["self", "piece"] (defScope (inClass (top 25) 5)) := ⟨rfl, rfl, rfl, by decide +kernel, rfl, by decide +kernel, by decide +kernel⟩
theorem ok_Follows_after (T : Txt K mg CT CF) (h0 : HereM K CF "after" "Follows.after" (inClass (top 25) 5)) (d_look_at_piece : DefC P w K mg base 2 "look_at_piece" (spLookPiece CT)) (m_fits : MetC P w K mg base 5 CF "fits" (spFits CT CF)) (m_pieces : MetC P w K mg base 1 CT "pieces" (spPieces CT)) : MetC P w K mg base 6 CF "after" (spAfter CT CF) := by
  refine met_of h0 sc_Follows_after (fun _ _ _ _ _ _ us hl => match us, hl with | [_, _], _ => rfl) (fun vs H Q E h => ?_) (fun f cdv A outer s H vs Q E hr h => ?_)
  · (first | (obtain ⟨_, rfl, _⟩ := h; rfl) | (obtain ⟨_, _, rfl, _⟩ := h; rfl) | (obtain ⟨_, _, _, rfl, _⟩ := h; rfl) | (obtain ⟨_, _, _, _, rfl, _⟩ := h; rfl) | (obtain ⟨_, _, _, _, _, rfl, _⟩ := h; rfl) | (obtain ⟨_, _, _, _, _, _, rfl, _⟩ := h; rfl) | (obtain ⟨_, _, _, _, _, _, _, rfl, _⟩ := h; rfl) | (obtain ⟨_, _, _, _, _, _, _, _, rfl, _⟩ := h; rfl))
  · have hu := hu_of hr
    obtain ⟨f0, t, bp, d, T0, p, rfl, hF, hp, q⟩ := h
    obtain ⟨dx, ka, kvs, e1, e2, e3, e4⟩ := hF.ex
    have ok := hF.tab.ok
    have l36 := hF.tab.len_pieces
    refine ⟨_, (pss_cons (ps_expr (pcl d_look_at_piece hr (by decide) (by rfl) (pa_cons (pe_fld (pv 0) rfl) (pa_cons (pv 1) pa_nil))))
      (pss_one (ps_ret (pe_lc (own := [("other", 2)]) (by rfl) sc_Follows_after.nd (pi_list (pmt0 m_pieces hr (by decide) (pe_fld (pv 0) rfl))) (blkOk_by (own := [("other", 2)]) (N := ["self", "piece", "other"]) (sc := defScope (inClass (top 25) 5)) (by decide +kernel)) (fun _ _ _ _ _ => pg_name (i := 2) sc_Follows_after.nd rfl (Or.inl rfl)) (fun _ _ _ _ _ => pts_one (pt_val (pmt m_fits hr (by decide) (pv 0) (pa_cons (pv 1) (pa_cons (pv 2) pa_nil))))) (fun _ _ _ _ _ => (pv 2)))))), ?_⟩
    refine ⟨_, rfl, f0, CF, dx, _, _, rfl, e1, T.clF, T.nF.1, ffl_table, _, rfl, t, bp, T0, p, rfl, hF.tab, hp, ?_⟩
    obtain ⟨dx2, bt, kr, kp, g1, g2, g3, g4, g5⟩ := hF.tab.ex
    refine ⟨_, rfl, f0, CF, dx, _, _, rfl, e1, T.clF, T.nF.1, ffl_table, t, dx2, _, rfl, g1, tfl_no (by decide +kernel), t, bp, T0, rfl, hF.tab, fun lp H1 n1 hlp => ?_⟩
    have F1 := hF.same n1.2
    have dl : lp ≠ d := F1.lst hlp
    refine ⟨lp, rfl, ⟨_, SqL.of hlp⟩, fun D hD => ?_⟩
    have hd1 := n1.2 _ _ e3
    have dD : d ≠ D := ne_of_none hd1 hD
    refine lc_list (xs := T0.pieces.map vS) (fun i H' => But d H1 H' ∧ FolAt CT CF H' f0 t bp d T0 ∧ LstAt H' D ((T0.pieces.take i).filter (fit T0 p))) ⟨(same_new hD).but d, F1.same (same_new hD), upd_same⟩ (fun i H' _ z => SqL.of (z.1 _ _ dl hlp)) ?_ ?_
    · rintro i x H' hx ⟨b2, F2, hD2⟩
      obtain ⟨x, hx', rfl⟩ := get_vS hx
      have hxm := List.mem_of_getElem? hx'
      obtain ⟨dx3, ka3, kvs3, i1, i2, i3, i4⟩ := F2.ex
      refine ⟨rfl, ?_⟩
      refine ⟨_, rfl, f0, dx3, _, rfl, i1, ffl_no (by decide +kernel), _, rfl, _, rfl, f0, t, bp, d, T0, p, x, rfl, F2, hp, hxm, fun H3 fq => ?_⟩
      have hD3 : LstAt H3 D ((T0.pieces.take i).filter (fit T0 p)) := fq.1 _ _ dD.symm hD2
      have e5 : (T0.pieces.take (i + 1)).filter (fit T0 p) = (T0.pieces.take i).filter (fit T0 p) ++ (if fit T0 p x = true then [x] else []) := by
        rw [List.take_add_one, hx', List.filter_append]
        show _ ++ [x].filter (fit T0 p) = _
        cases hfx : fit T0 p x with
        | true => rw [List.filter_cons_of_pos hfx]; rfl
        | false => rw [List.filter_cons_of_neg (by rw [hfx]; exact Bool.false_ne_true)]; rfl
      refine ⟨_, rfl, ?_⟩
      cases hfx : fit T0 p x with
      | false =>
        refine iteF ⟨b2.trans fq.1, fq.2, ?_⟩
        rw [e5, hfx]
        simpa using hD3
      | true =>
        refine iteT ?_
        refine ⟨_, rfl, _, hD3, ?_, ?_, ?_, ?_⟩
        · rw [List.length_map]
          exact smallLt (Nat.lt_of_le_of_lt (List.length_filter_le _ _) (by rw [List.length_take]; omega))
        · exact (b2.trans fq.1).mut hD
        · exact F1.mut (b2.trans fq.1) fq.2 hD
        · rw [e5, hfx, if_pos rfl]
          unfold LstAt
          rw [upd_same, List.map_append]; rfl
    · rintro H' ⟨b2, F2, hD2⟩
      rw [List.length_map, List.take_length] at hD2
      exact q D H' (n1.2.free hD) ⟨(n1.2.but d).trans b2, F2⟩ hD2
end
end JR
namespace JR
open PySem PySem.Spec PyProof.Rows L2 SX
section
variable {P : Program} {w : World} {K : PySem.W.Frag} {mg : Str → Option Value} {base : Heap} {CT CF : Addr}
theorem sc_what_is_wrong : FnScope ["follows", "thing", "table", "place", "piece"] ["follows", "thing"] (defScope (top 8)) := ⟨rfl, rfl, rfl, by decide +kernel, rfl, by decide +kernel, by decide +kernel⟩
theorem ok_what_is_wrong (T : Txt K mg CT CF) (h0 : Here K mg "what_is_wrong" (top 8)) (m_fits : MetC P w K mg base 5 CF "fits" (spFits CT CF)) (m_is_alone : MetC P w K mg base 1 CF "is_alone" (spIsAlone CT CF)) (m_table : MetC P w K mg base 1 CF "table" (spFTable CT CF)) (m_which : MetC P w K mg base 1 CT "which" (spWhich CT)) : DefC P w K mg base 6 "what_is_wrong" (spWrong CT CF) := by
  refine def_of h0 sc_what_is_wrong (fun _ _ _ _ _ _ us hl => match us, hl with | [_, _], _ => rfl) (fun vs H Q E h => ?_) (fun f cdv A outer s H vs Q E hr h => ?_)
  · (first | (obtain ⟨_, rfl, _⟩ := h; rfl) | (obtain ⟨_, _, rfl, _⟩ := h; rfl) | (obtain ⟨_, _, _, rfl, _⟩ := h; rfl) | (obtain ⟨_, _, _, _, rfl, _⟩ := h; rfl) | (obtain ⟨_, _, _, _, _, rfl, _⟩ := h; rfl) | (obtain ⟨_, _, _, _, _, _, rfl, _⟩ := h; rfl) | (obtain ⟨_, _, _, _, _, _, _, rfl, _⟩ := h; rfl) | (obtain ⟨_, _, _, _, _, _, _, _, rfl, _⟩ := h; rfl))
  · have hu := hu_of hr
    obtain ⟨f0, t, bp, d, T0, a, row, rfl, hF, ha, hl, hm, q1, q2⟩ := h
    obtain ⟨dx, ka, kvs, e1, e2, e3, e4⟩ := hF.ex
    refine ⟨_, (pss_cons (ps_if (pt_not (pt_val (pe_isi (by rfl) T.isinstance (by rfl) T.list boot_listT (pv 1)))) (pss_one (ps_ret (pe_tup (pa_cons pe_str (pa_cons pe_non pa_nil))))) pss_nil)
      (pss_cons (ps_set (i := 2) sc_what_is_wrong.nd rfl (Or.inl rfl) (pmt0 m_table hr (by decide) (pv 0)))
      (pss_cons (ps_for PassesOwn.never rfl (pi_enum (by rfl) T.enumerate (pa_cons (pv 1) pa_nil)) (pg_tup rfl (pgs_cons (pg_name (i := 3) sc_what_is_wrong.nd rfl (Or.inl rfl)) (pgs_cons (pg_name (i := 4) sc_what_is_wrong.nd rfl (Or.inl rfl)) pgs_nil))) (pss_one (ps_if (pt_cmpR op_isN (pmt m_which hr (by decide) (pv 2) (pa_cons (pv 4) pa_nil)) pe_non (nomark _)) (pss_one (ps_ret (pe_tup (pa_cons pe_str (pa_cons (pv 3) pa_nil))))) pss_nil)))
      (pss_cons (ps_for PassesOwn.never rfl (pi_enum (by rfl) T.enumerate (pa_cons (pv 1) pa_nil)) (pg_tup rfl (pgs_cons (pg_name (i := 3) sc_what_is_wrong.nd rfl (Or.inl rfl)) (pgs_cons (pg_name (i := 4) sc_what_is_wrong.nd rfl (Or.inl rfl)) pgs_nil))) (pss_one (ps_if (pt_not (pt_val (pmt m_is_alone hr (by decide) (pv 0) (pa_cons (pv 4) pa_nil)))) (pss_one (ps_ret (pe_tup (pa_cons pe_str (pa_cons (pv 3) pa_nil))))) pss_nil)))
      (pss_cons (ps_for PassesOwn.never rfl (pi_range1 (by rfl) T.range (pa_cons (pe_op op_sub (pe_callB call_len_seq (by rfl) T.len PySem.boot_len (pa_cons (pv 1) pa_nil)) pe_int) pa_nil)) (pg_name (i := 3) sc_what_is_wrong.nd rfl (Or.inl rfl)) (pss_one (ps_if (pt_not (pt_val (pmt m_fits hr (by decide) (pv 0) (pa_cons (pe_ix ix_list (pv 1) (pv 3) (fun _ _ => rfl)) (pa_cons (pe_ix ix_list (pv 1) (pe_op op_add (pv 3) pe_int) (fun _ _ => rfl)) pa_nil))))) (pss_one (ps_ret (pe_tup (pa_cons pe_str (pa_cons (pv 3) pa_nil))))) pss_nil)))
      (pss_one (ps_ret pe_non))))))), ?_⟩
    refine ⟨_, rfl, _, "list", true, rfl, .base (.lst ha), by decide +kernel, _, rfl, iteF ?_⟩
    refine ⟨_, rfl, f0, dx, _, rfl, e1, ffl_no (by decide +kernel), f0, t, bp, d, T0, rfl, hF, ?_⟩
    -- all are pieces
    refine ⟨_, rfl, a, row.map vS, rfl, SqL.of ha, for_it walk_enum (fun i σ' H' => (∃ x1 x2, σ' = [some (V.ref f0), some (V.ref a), some (V.ref t), x1, x2]) ∧ Same H H') ⟨⟨_, _, rfl⟩, Same.refl H⟩ (fun _ _ _ _ p => SqL.of (p.2 _ _ ha)) ?_ ?_⟩
    · rintro i x σ' H1 H2 hi ⟨⟨x1, x2, rfl⟩, s1⟩ ⟨Tt, v1, v2, rfl, nT, rfl, hv1, hv2⟩
      obtain ⟨p, hp, rfl⟩ := get_vS (show (row.map vS)[i]? = some v2 from hv2)
      have s2 := s1.trans (same_new (o := .tup [v1, vS p]) nT)
      have t2 := hF.tab.same s2
      obtain ⟨dx2, bt, kr, kp, g1, _⟩ := t2.ex
      refine ⟨Tt, _, rfl, SqT.of upd_same, rfl, _, _, rfl, _, _, rfl, rfl, ?_⟩
      refine ⟨_, rfl, t, dx2, _, rfl, g1, tfl_no (by decide +kernel), _, rfl, t, bp, T0, p, rfl, t2, ?_⟩
      rw [if_pos (hm p (List.mem_of_getElem? hp)).1]
      refine ⟨rfl, _, rfl, iteF ?_⟩
      exact ⟨⟨_, _, rfl⟩, s2⟩
    rintro σ' H1 ⟨⟨x1, x2, rfl⟩, s1⟩
    -- all stand alone
    have ha1 := s1 _ _ ha
    refine ⟨_, rfl, a, row.map vS, rfl, SqL.of ha1, for_it walk_enum (fun i σ' H' => (∃ x1 x2, σ' = [some (V.ref f0), some (V.ref a), some (V.ref t), x1, x2]) ∧ Same H H') ⟨⟨_, _, rfl⟩, s1⟩ (fun _ _ _ _ p => SqL.of (p.2 _ _ ha)) ?_ ?_⟩
    · rintro i x σ' H1 H2 hi ⟨⟨x1, x2, rfl⟩, s1⟩ ⟨Tt, v1, v2, rfl, nT, rfl, hv1, hv2⟩
      obtain ⟨p, hp, rfl⟩ := get_vS (show (row.map vS)[i]? = some v2 from hv2)
      have s2 := s1.trans (same_new (o := .tup [v1, vS p]) nT)
      have F2 := hF.same s2
      refine ⟨Tt, _, rfl, SqT.of upd_same, rfl, _, _, rfl, _, _, rfl, rfl, ?_⟩
      refine ⟨_, rfl, f0, dx, _, rfl, s2 _ _ e1, ffl_no (by decide +kernel), _, rfl, f0, t, bp, d, T0, p, rfl, F2, ?_⟩
      rw [decide_eq_true (show p ∈ T0.pieces ∧ alone T0 p from hm p (List.mem_of_getElem? hp))]
      refine ⟨_, rfl, iteF ?_⟩
      exact ⟨⟨_, _, rfl⟩, s2⟩
    rintro σ' H2 ⟨⟨x3, x4, rfl⟩, s2⟩
    -- the borders
    have ha2 := s2 _ _ ha
    have da : a ≠ d := hF.lst ha
    refine ⟨_, rfl, a, _, rfl, .inl (SqL.of ha2), _, _, rfl, rfl, _, rfl, by rw [List.length_map]; omega, by rw [List.length_map]; omega, ?_⟩
    rw [List.length_map]
    refine for_range (lo := 0) (n := (((row.length : Nat) : Int) - 1).toNat) (fun i σ' H' => (∃ x3 x4, σ' = [some (V.ref f0), some (V.ref a), some (V.ref t), x3, x4]) ∧ FQ CT CF H H' f0 t bp d T0 ∧ ∀ (j : Nat) p q, j < i → row[j]? = some p → row[j + 1]? = some q → fit T0 p q = true)
      ⟨⟨_, _, rfl⟩, ⟨s2.but d, hF.same s2⟩, fun j p q hj => absurd hj (Nat.not_lt_zero _)⟩ ?_ ?_
    · rintro i σ' H3 hi ⟨⟨x3, x4, rfl⟩, fq, hb⟩
      have hi1 : i + 1 < row.length := by omega
      obtain ⟨p, hp⟩ : ∃ p, row[i]? = some p := ⟨_, List.getElem?_eq_getElem (by omega)⟩
      obtain ⟨p2, hp2⟩ : ∃ p, row[i + 1]? = some p := ⟨_, List.getElem?_eq_getElem hi1⟩
      have hpv : (row.map vS)[i]? = some (vS p) := by rw [List.getElem?_map, hp]; rfl
      have hpv2 : (row.map vS)[i + 1]? = some (vS p2) := by rw [List.getElem?_map, hp2]; rfl
      have ha3 := fq.1 _ _ da ha
      obtain ⟨dx3, ka3, kvs3, i1, i2, i3, i4⟩ := fq.2.ex
      have e0 : (0 : Int) + (i : Int) = (i : Int) := Int.zero_add _
      rw [e0]
      refine ⟨_, rfl, f0, dx3, _, rfl, i1, ffl_no (by decide +kernel), _, rfl, _, rfl, a, _, _, _, rfl, rfl, SqL.of ha3, atI_nat hpv, _, rfl, _, rfl, _, _, rfl, rfl, a, _, _, _, rfl, rfl, SqL.of ha3, atI_nat (j := i + 1) hpv2, f0, t, bp, d, T0, p, p2, rfl, fq.2, (hm p (List.mem_of_getElem? hp)).1, (hm p2 (List.mem_of_getElem? hp2)).1, fun H4 fq2 => ?_⟩
      have fq3 : FQ CT CF H H4 f0 t bp d T0 := ⟨fq.1.trans fq2.1, fq2.2⟩
      refine ⟨_, rfl, ?_⟩
      cases hf : fit T0 p p2 with
      | true =>
        refine iteF ⟨⟨_, _, rfl⟩, fq3, fun j p' q' hj h1 h2 => ?_⟩
        by_cases e : j = i
        · subst e
          rw [hp] at h1; rw [hp2] at h2
          cases h1; cases h2; exact hf
        · exact hb j p' q' (by omega) h1 h2
      | false =>
        refine iteT ?_
        refine ⟨_, rfl, by show 2 ≤ sizeLine; decide, fun z hz => ?_⟩
        have s5 := same_new (o := .tup [.str "border", .int (i : Int)]) hz
        exact q2 i z _ ⟨fq3.1.trans (s5.but d), fq3.2.same s5⟩ ⟨⟨p, p2, hp, hp2, hf⟩, fun j p' q' hj h1 h2 => hb j p' q' hj h1 h2⟩ upd_same
    · rintro σ' H3 ⟨⟨x3, x4, rfl⟩, fq, hb⟩
      exact q1 H3 fq fun j p' q' h1 h2 => hb j p' q' (by have := (List.getElem?_eq_some_iff.mp h2).1; omega) h1 h2
end
end JR
namespace JR
open PySem PySem.Spec PyProof.Rows L2 SX
section
variable {P : Program} {w : World} {K : PySem.W.Frag} {mg : Str → Option Value} {base : Heap} {CT CF : Addr}
theorem sc_last_at : FnScope ["follows", "text", "found", "end", "begin", "piece"] ["follows", "text", "found", "end"] (defScope (top 27)) := ⟨rfl, rfl, rfl, by decide +kernel, rfl, by decide +kernel, by decide +kernel⟩
theorem ok_last_at (T : Txt K mg CT CF) (h0 : Here K mg "last_at" (top 27)) (m_fits : MetC P w K mg base 5 CF "fits" (spFits CT CF)) (m_is_alone : MetC P w K mg base 1 CF "is_alone" (spIsAlone CT CF)) (m_longest : MetC P w K mg base 1 CT "longest" (spLongest CT)) (m_table : MetC P w K mg base 1 CF "table" (spFTable CT CF)) : DefC P w K mg base 6 "last_at" (spLastAt CT CF) := by
  refine def_of h0 sc_last_at (fun _ _ _ _ _ _ us hl => match us, hl with | [_, _, _, _], _ => rfl) (fun vs H Q E h => ?_) (fun f cdv A outer s H vs Q E hr h => ?_)
  · (first | (obtain ⟨_, rfl, _⟩ := h; rfl) | (obtain ⟨_, _, rfl, _⟩ := h; rfl) | (obtain ⟨_, _, _, rfl, _⟩ := h; rfl) | (obtain ⟨_, _, _, _, rfl, _⟩ := h; rfl) | (obtain ⟨_, _, _, _, _, rfl, _⟩ := h; rfl) | (obtain ⟨_, _, _, _, _, _, rfl, _⟩ := h; rfl) | (obtain ⟨_, _, _, _, _, _, _, rfl, _⟩ := h; rfl) | (obtain ⟨_, _, _, _, _, _, _, _, rfl, _⟩ := h; rfl))
  · have hu := hu_of hr
    obtain ⟨f0, t, bp, d, T0, u, a, n, rfl, hF, ht, hn1, hn, ha, q⟩ := h
    obtain ⟨dx, ka, kvs, e1, e2, e3, e4⟩ := hF.ex
    have ok := hF.tab.ok
    obtain ⟨b0, p0, hb0, hp0, hpm0, hpa0, hpl0, hlast, hcut, hprev⟩ := last_ex ok ht.1 hn1 hn
    have ul := ht.2
    have da : a ≠ d := hF.lst ha
    refine ⟨_, (pss_cons (ps_for PassesOwn.never rfl (pi_range2 (by rfl) T.range (pa_cons (pe_callB (call_max2 rfl) (by rfl) T.max boot_maxB (pa_cons pe_int (pa_cons (pe_op op_sub (pv 3) (pmt0 m_longest hr (by decide) (pmt0 m_table hr (by decide) (pv 0)))) pa_nil))) (pa_cons (pv 3) pa_nil))) (pg_name (i := 4) sc_last_at.nd rfl (Or.inl rfl)) (pss_cons (ps_set (i := 5) sc_last_at.nd rfl (Or.inl rfl) (pe_slice sl_str (pv 1) (po_some (pv 4)) (po_some (pv 3))))
      (pss_one (ps_if (PW.pt (pw_and (pt_val (pmt m_is_alone hr (by decide) (pv 0) (pa_cons (pv 5) pa_nil))) (pw_and1 (PW.pt (pw_or (pt_cmpR op_eq (pv 4) pe_int (nomark _)) (pw_or1 (pt_val (pmt m_fits hr (by decide) (pv 0) (pa_cons (pe_ix ix_list (pv 2) (pv 4) (fun _ _ => rfl)) (pa_cons (pv 5) pa_nil)))))))))) (pss_one (ps_ret (pv 5))) pss_nil))))
      (pss_one (ps_ret pe_non))), ?_⟩
    refine ⟨_, rfl, _, rfl, f0, dx, _, rfl, e1, ffl_no (by decide +kernel), f0, t, bp, d, T0, rfl, hF, ?_⟩
    refine ⟨t, ?_⟩
    obtain ⟨dx2, bt, kr, kp, g1, _⟩ := hF.tab.ex
    refine ⟨dx2, _, rfl, g1, tfl_no (by decide +kernel), t, bp, T0, rfl, hF.tab, fun m H1 s1 hm1 hm2 => ?_⟩
    have F1 := hF.same s1
    refine ⟨_, _, rfl, rfl, _, _, rfl, _, rfl, _, _, rfl, ?_, ?_⟩
    all_goals rw [show (if (n : Int) - (m : Int) > 0 then (n : Int) - (m : Int) else 0) = ((n - m : Nat) : Int) by split <;> omega]
    · omega
    have ml := hm1 p0 hpm0
    refine for_range (lo := ((n - m : Nat) : Int)) (n := ((n : Int) - ((n - m : Nat) : Int)).toNat) (fun i σ' H' => (∃ x4 x5, σ' = [some (V.ref f0), some (vS u), some (V.ref a), some (.int (n : Int)), x4, x5]) ∧ FQ CT CF H H' f0 t bp d T0 ∧ ∀ b, n - m ≤ b → b < n - m + i → b ≠ b0)
      ⟨⟨_, _, rfl⟩, ⟨s1.but d, F1⟩, fun b h1 h2 => absurd h2 (by omega)⟩ ?_ ?_
    · rintro i σ' H2 hi ⟨⟨x4, x5, rfl⟩, fq, hbad⟩
      have ha2 := fq.1 _ _ da ha
      rw [show ((n - m : Nat) : Int) + (i : Int) = ((n - m + i : Nat) : Int) by omega]
      generalize hbe : n - m + i = b at hbad ⊢
      have hbn : b < n := by omega
      obtain ⟨dx3, ka3, kvs3, i1, i2, i3, i4⟩ := fq.2.ex
      refine ⟨_, rfl, _, rfl, _, rfl, _, rfl, _, rfl, _, rfl, small (by rw [len_S]; omega), ?_⟩
      rw [cutS_mid]
      generalize hpe : (u.drop b).take (n - b) = p
      have go : b ≠ b0 → ∀ H3, FQ CT CF H H3 f0 t bp d T0 → (∃ x4 x5, [some (V.ref f0), some (vS u), some (V.ref a), some (V.int (n : Int)), some (V.int (b : Int)), some (vS p)] = [some (V.ref f0), some (vS u), some (V.ref a), some (.int (n : Int)), x4, x5]) ∧ FQ CT CF H H3 f0 t bp d T0 ∧ ∀ b', n - m ≤ b' → b' < n - m + (i + 1) → b' ≠ b0 := fun hb H3 fq3 =>
        ⟨⟨_, _, rfl⟩, fq3, fun b' h1 h2 => by
          by_cases e : b' = b
          · rw [e]; exact hb
          · exact hbad b' h1 (by omega)⟩
      refine ⟨_, rfl, f0, dx3, _, rfl, i1, ffl_no (by decide +kernel), _, rfl, f0, t, bp, d, T0, p, rfl, fq.2, _, rfl, ?_⟩
      by_cases hpa : p ∈ T0.pieces ∧ alone T0 p
      rotate_left
      · rw [decide_eq_false hpa]
        refine iteF (go (fun e => hpa ?_) H2 fq)
        rw [← hpe, e, ← hp0]
        exact ⟨hpm0, hpa0⟩
      rw [decide_eq_true hpa]
      refine ⟨_, rfl, rfl, _, rfl, ?_⟩
      rw [dec_int]
      by_cases hb0' : b = 0
      · subst hb0'
        refine ⟨_, rfl, ?_⟩
        have := last_ok ok (b := 0) (e := n) (u := u) hbn hn hpe.symm hpa.2 (.inl rfl)
        have := q H2 fq
        rw [lastP_of (by assumption)] at this
        exact this
      · have : ((b : Int) == 0) = false := beq_eq_false_iff_ne.mpr (by omega)
        rw [this]
        obtain ⟨b1, l, _, _, hlm, hla, _, hll, _, _⟩ := last_ex ok (e := b) ht.1 (by omega) (by omega)
        refine ⟨_, rfl, f0, dx3, _, rfl, i1, ffl_no (by decide +kernel), _, rfl, _, rfl, a, _, _, vS l, rfl, rfl, SqL.of ha2, atI_nat (by rw [lastsL_get hbn, lastP_of hll]), _, rfl, f0, t, bp, d, T0, l, p, rfl, fq.2, hlm, hpa.1, fun H3 fq3 => ?_⟩
        have fq4 : FQ CT CF H H3 f0 t bp d T0 := ⟨fq.1.trans fq3.1, fq3.2⟩
        refine ⟨_, rfl, ?_⟩
        cases hf : fit T0 l p with
        | true =>
          refine ⟨_, rfl, ?_⟩
          have h9 := last_ok ok hbn hn hpe.symm hpa.2 (.inr ⟨l, hll, of_decide_eq_true hf⟩)
          have := q H3 fq4
          rw [lastP_of h9] at this
          exact this
        | false =>
          refine iteF (go (fun e => ?_) H3 fq4)
          rcases hprev with z | ⟨l', z1, z2⟩
          · omega
          · rw [← e, hll] at z1
            have el := Option.some.inj z1
            rw [← el, hp0, ← e, hpe] at z2
            have : fit T0 l p = true := decide_eq_true z2
            rw [hf] at this; cases this
    · rintro σ' H2 ⟨⟨x4, x5, rfl⟩, fq, hbad⟩
      exact absurd rfl (hbad b0 (by omega) (by omega))
theorem sc_first_at : FnScope ["follows", "text", "found", "begin", "end", "piece"] ["follows", "text", "found", "begin"] (defScope (top 29)) := ⟨rfl, rfl, rfl, by decide +kernel, rfl, by decide +kernel, by decide +kernel⟩
theorem ok_first_at (T : Txt K mg CT CF) (h0 : Here K mg "first_at" (top 29)) (m_fits : MetC P w K mg base 5 CF "fits" (spFits CT CF)) (m_is_alone : MetC P w K mg base 1 CF "is_alone" (spIsAlone CT CF)) (m_longest : MetC P w K mg base 1 CT "longest" (spLongest CT)) (m_table : MetC P w K mg base 1 CF "table" (spFTable CT CF)) : DefC P w K mg base 6 "first_at" (spFirstAt CT CF) := by
  refine def_of h0 sc_first_at (fun _ _ _ _ _ _ us hl => match us, hl with | [_, _, _, _], _ => rfl) (fun vs H Q E h => ?_) (fun f cdv A outer s H vs Q E hr h => ?_)
  · (first | (obtain ⟨_, rfl, _⟩ := h; rfl) | (obtain ⟨_, _, rfl, _⟩ := h; rfl) | (obtain ⟨_, _, _, rfl, _⟩ := h; rfl) | (obtain ⟨_, _, _, _, rfl, _⟩ := h; rfl) | (obtain ⟨_, _, _, _, _, rfl, _⟩ := h; rfl) | (obtain ⟨_, _, _, _, _, _, rfl, _⟩ := h; rfl) | (obtain ⟨_, _, _, _, _, _, _, rfl, _⟩ := h; rfl) | (obtain ⟨_, _, _, _, _, _, _, _, rfl, _⟩ := h; rfl))
  · have hu := hu_of hr
    obtain ⟨f0, t, bp, d, T0, u, a, b, rfl, hF, ht, hb, ha, q⟩ := h
    obtain ⟨dx, ka, kvs, e1, e2, e3, e4⟩ := hF.ex
    have ok := hF.tab.ok
    obtain ⟨n0, p0, hb0, hn0, hp0, hpm0, hpa0, hpl0, hcut, hnext⟩ := first_ex ok ht.1 hb
    have ul := ht.2
    have da : a ≠ d := hF.lst ha
    refine ⟨_, (pss_cons (ps_for PassesOwn.never rfl (pi_range2 (by rfl) T.range (pa_cons (pe_op op_add (pv 3) pe_int) (pa_cons (pe_op op_add (pe_callB (call_min2 rfl) (by rfl) T.min boot_minB (pa_cons (pe_callB call_len_str (by rfl) T.len PySem.boot_len (pa_cons (pv 1) pa_nil)) (pa_cons (pe_op op_add (pv 3) (pmt0 m_longest hr (by decide) (pmt0 m_table hr (by decide) (pv 0)))) pa_nil))) pe_int) pa_nil))) (pg_name (i := 4) sc_first_at.nd rfl (Or.inl rfl)) (pss_cons (ps_set (i := 5) sc_first_at.nd rfl (Or.inl rfl) (pe_slice sl_str (pv 1) (po_some (pv 3)) (po_some (pv 4))))
      (pss_one (ps_if (PW.pt (pw_and (pt_val (pmt m_is_alone hr (by decide) (pv 0) (pa_cons (pv 5) pa_nil))) (pw_and1 (PW.pt (pw_or (pt_cmpR op_eq (pv 4) (pe_callB call_len_str (by rfl) T.len PySem.boot_len (pa_cons (pv 1) pa_nil)) (nomark _)) (pw_or1 (pt_val (pmt m_fits hr (by decide) (pv 0) (pa_cons (pv 5) (pa_cons (pe_ix ix_list (pv 2) (pv 4) (fun _ _ => rfl)) pa_nil)))))))))) (pss_one (ps_ret (pv 5))) pss_nil))))
      (pss_one (ps_ret pe_non))), ?_⟩
    refine ⟨_, rfl, _, _, rfl, rfl, ?_⟩
    refine ⟨_, rfl, _, rfl, small (by rw [len_S]; omega), _, rfl, _, rfl, f0, dx, _, rfl, e1, ffl_no (by decide +kernel), f0, t, bp, d, T0, rfl, hF, ?_⟩
    obtain ⟨dx2, bt, kr, kp, g1, _⟩ := hF.tab.ex
    refine ⟨t, dx2, _, rfl, g1, tfl_no (by decide +kernel), t, bp, T0, rfl, hF.tab, fun m H1 s1 hm1 hm2 => ?_⟩
    have F1 := hF.same s1
    have ml := hm1 p0 hpm0
    rw [len_S]
    refine ⟨_, _, rfl, rfl, _, _, rfl, _, _, rfl, rfl, _, _, rfl, ?_⟩
    have eM : (if (b : Int) + (m : Int) < ((u.length : Nat) : Int) then (b : Int) + (m : Int) else ((u.length : Nat) : Int)) = ((min u.length (b + m) : Nat) : Int) := by split <;> omega
    rw [eM]
    generalize hM : min u.length (b + m) = M
    refine ⟨by omega, ?_⟩
    refine for_range (lo := (b : Int) + 1) (n := ((M : Int) + 1 - ((b : Int) + 1)).toNat) (fun i σ' H' => (∃ x4 x5, σ' = [some (V.ref f0), some (vS u), some (V.ref a), some (.int (b : Int)), x4, x5]) ∧ FQ CT CF H H' f0 t bp d T0 ∧ ∀ e, b + 1 ≤ e → e < b + 1 + i → e ≠ n0)
      ⟨⟨_, _, rfl⟩, ⟨s1.but d, F1⟩, fun e h1 h2 => absurd h2 (by omega)⟩ ?_ ?_
    · rintro i σ' H2 hi ⟨⟨x4, x5, rfl⟩, fq, hbad⟩
      have ha2 := fq.1 _ _ da ha
      rw [show (b : Int) + 1 + (i : Int) = ((b + 1 + i : Nat) : Int) by omega]
      generalize hbe : b + 1 + i = n at hbad ⊢
      have hbn : b < n := by omega
      have hnu : n ≤ u.length := by omega
      obtain ⟨dx3, ka3, kvs3, i1, i2, i3, i4⟩ := fq.2.ex
      refine ⟨_, rfl, _, rfl, _, rfl, _, rfl, _, rfl, _, rfl, small (by rw [len_S]; omega), ?_⟩
      rw [cutS_mid]
      generalize hpe : (u.drop b).take (n - b) = p
      have go : n ≠ n0 → ∀ H3, FQ CT CF H H3 f0 t bp d T0 → (∃ x4 x5, [some (V.ref f0), some (vS u), some (V.ref a), some (V.int (b : Int)), some (V.int (n : Int)), some (vS p)] = [some (V.ref f0), some (vS u), some (V.ref a), some (.int (b : Int)), x4, x5]) ∧ FQ CT CF H H3 f0 t bp d T0 ∧ ∀ e, b + 1 ≤ e → e < b + 1 + (i + 1) → e ≠ n0 := fun hb H3 fq3 =>
        ⟨⟨_, _, rfl⟩, fq3, fun b' h1 h2 => by
          by_cases e : b' = n
          · rw [e]; exact hb
          · exact hbad b' h1 (by omega)⟩
      refine ⟨_, rfl, f0, dx3, _, rfl, i1, ffl_no (by decide +kernel), _, rfl, f0, t, bp, d, T0, p, rfl, fq.2, _, rfl, ?_⟩
      by_cases hpa : p ∈ T0.pieces ∧ alone T0 p
      rotate_left
      · rw [decide_eq_false hpa]
        refine iteF (go (fun e => hpa ?_) H2 fq)
        rw [← hpe, e, ← hp0]
        exact ⟨hpm0, hpa0⟩
      rw [decide_eq_true hpa]
      refine ⟨_, rfl, _, rfl, _, rfl, small (by rw [len_S]; omega), rfl, _, rfl, ?_⟩
      rw [dec_int, len_S]
      have ret : ∀ H3, FQ CT CF H H3 f0 t bp d T0 → Cut T0.rows (u.drop b) = p :: Cut T0.rows (u.drop n) → Q (vS p) H3 := fun H3 fq3 z => by
        have := q H3 fq3
        rw [firstP_of (p := p) (by rw [z]; rfl)] at this
        exact this
      by_cases hn0' : n = u.length
      · have : ((n : Int) == ((u.length : Nat) : Int)) = true := beq_iff_eq.mpr (by omega)
        rw [this]
        refine ⟨_, rfl, ?_⟩
        exact ret H2 fq (first_ok ok hbn hnu hpe.symm hpa.2 (.inl hn0'))
      · have : ((n : Int) == ((u.length : Nat) : Int)) = false := beq_eq_false_iff_ne.mpr (by omega)
        rw [this]
        obtain ⟨n1, l, _, _, _, hlm, hla, _, hlc, _⟩ := first_ex ok (b := n) ht.1 (by omega)
        have hll : (Cut T0.rows (u.drop n)).head? = some l := by rw [hlc]; rfl
        refine ⟨_, rfl, f0, dx3, _, rfl, i1, ffl_no (by decide +kernel), _, rfl, _, rfl, _, rfl, a, _, _, vS l, rfl, rfl, SqL.of ha2, atI_nat (by rw [firstsL_get hnu, if_neg (by omega), firstP_of hll]), f0, t, bp, d, T0, p, l, rfl, fq.2, hpa.1, hlm, fun H3 fq3 => ?_⟩
        have fq4 : FQ CT CF H H3 f0 t bp d T0 := ⟨fq.1.trans fq3.1, fq3.2⟩
        refine ⟨_, rfl, ?_⟩
        cases hf : fit T0 p l with
        | true =>
          refine ⟨_, rfl, ?_⟩
          exact ret H3 fq4 (first_ok ok hbn hnu hpe.symm hpa.2 (.inr ⟨l, hll, of_decide_eq_true hf⟩))
        | false =>
          refine iteF (go (fun e => ?_) H3 fq4)
          rcases hnext with z | ⟨l', z1, z2⟩
          · omega
          · rw [← e, hll] at z1
            have el := Option.some.inj z1
            rw [← el, hp0, ← e, hpe] at z2
            have : fit T0 p l = true := decide_eq_true z2
            rw [hf] at this; cases this
    · rintro σ' H2 ⟨⟨x4, x5, rfl⟩, fq, hbad⟩
      exact absurd rfl (hbad n0 (by omega) (by omega))
end
end JR
namespace JR
open PySem PySem.Spec PyProof.Rows L2 SX
section
variable {P : Program} {w : World} {K : PySem.W.Frag} {mg : Str → Option Value} {base : Heap} {CT CF : Addr}
theorem sc_longer_lasts : FnScope ["follows", "text", "found", "longer", "end"] ["follows", "text", "found"] (defScope (top 28)) := ⟨rfl, rfl, rfl, by decide +kernel, rfl, by decide +kernel, by decide +kernel⟩
theorem ok_longer_lasts (T : Txt K mg CT CF) (h0 : Here K mg "longer_lasts" (top 28)) (d_last_at : DefC P w K mg base 6 "last_at" (spLastAt CT CF)) : DefC P w K mg base 7 "longer_lasts" (spLonger CT CF) := by
  refine def_of h0 sc_longer_lasts (fun _ _ _ _ _ _ us hl => match us, hl with | [_, _, _], _ => rfl) (fun vs H Q E h => ?_) (fun f cdv A outer s H vs Q E hr h => ?_)
  · (first | (obtain ⟨_, rfl, _⟩ := h; rfl) | (obtain ⟨_, _, rfl, _⟩ := h; rfl) | (obtain ⟨_, _, _, rfl, _⟩ := h; rfl) | (obtain ⟨_, _, _, _, rfl, _⟩ := h; rfl) | (obtain ⟨_, _, _, _, _, rfl, _⟩ := h; rfl) | (obtain ⟨_, _, _, _, _, _, rfl, _⟩ := h; rfl) | (obtain ⟨_, _, _, _, _, _, _, rfl, _⟩ := h; rfl) | (obtain ⟨_, _, _, _, _, _, _, _, rfl, _⟩ := h; rfl))
  · have hu := hu_of hr
    obtain ⟨f0, t, bp, d, T0, u, a, rfl, hF, ht, ha, q⟩ := h
    obtain ⟨dx, ka, kvs, e1, e2, e3, e4⟩ := hF.ex
    have ok := hF.tab.ok
    have ul := ht.2
    have da : a ≠ d := hF.lst ha
    refine ⟨_, (pss_cons (ps_set (i := 3) sc_longer_lasts.nd rfl (Or.inl rfl) (pe_callTy call_list_of (by rfl) T.list boot_listT (pa_cons (pv 2) pa_nil)))
      (pss_cons (ps_for PassesOwn.never rfl (pi_range2 (by rfl) T.range (pa_cons (pe_callB call_len_seq (by rfl) T.len PySem.boot_len (pa_cons (pv 2) pa_nil)) (pa_cons (pe_op op_add (pe_callB call_len_str (by rfl) T.len PySem.boot_len (pa_cons (pv 1) pa_nil)) pe_int) pa_nil))) (pg_name (i := 4) sc_longer_lasts.nd rfl (Or.inl rfl)) (pss_one (ps_expr (pe_bm PySem.F.plainAttrs_list PySem.F.slot_list_append PySem.F.type_list_append mt_append (pv 3) (pa_cons (pcl d_last_at hr (by decide) (by rfl) (pa_cons (pv 0) (pa_cons (pv 1) (pa_cons (pv 3) (pa_cons (pv 4) pa_nil))))) pa_nil)))))
      (pss_one (ps_ret (pv 3))))), ?_⟩
    refine ⟨_, rfl, a, _, rfl, .inl (SqL.of ha), fun p hp => ?_⟩
    have pd : p ≠ d := (ne_of_none e3 hp).symm
    have ap : a ≠ p := ne_of_none ha hp
    have s1 := same_new (o := .lst (lastsL T0 u 1)) hp
    refine ⟨_, rfl, a, _, rfl, .inl (SqL.of (s1 _ _ ha)), _, rfl, _, rfl, small (by rw [len_S]; omega), _, _, rfl, rfl, _, _, rfl, ?_, ?_⟩
    all_goals rw [lastsL_len, len_S]
    · omega
    refine for_range (lo := ((1 : Nat) : Int)) (n := (((u.length : Nat) : Int) + 1 - ((1 : Nat) : Int)).toNat) (fun i σ' H' => (∃ x4, σ' = [some (V.ref f0), some (vS u), some (V.ref a), some (V.ref p), x4]) ∧ FQ CT CF H H' f0 t bp d T0 ∧ H' p = some (.lst (lastsL T0 u (1 + i))))
      ⟨⟨_, rfl⟩, ⟨s1.but d, hF.same s1⟩, upd_same⟩ ?_ ?_
    · rintro i σ' H2 hi ⟨⟨x4, rfl⟩, fq, hp2⟩
      rw [show ((1 : Nat) : Int) + (i : Int) = ((1 + i : Nat) : Int) by omega]
      refine ⟨_, rfl, .inl ⟨rfl, _, SqL.of hp2⟩, _, rfl, _, rfl, _, rfl, _, rfl, f0, t, bp, d, T0, u, p, 1 + i, rfl, fq.2, ht, by omega, by omega, hp2, fun H3 fq3 => ?_⟩
      have hp3 := fq3.1 _ _ pd hp2
      refine ⟨p, _, _, rfl, rfl, hp3, by rw [lastsL_len]; exact smallLt (by omega), ⟨_, rfl⟩, ⟨(fq.1.trans fq3.1).mut hp, hF.mut (fq.1.trans fq3.1) fq3.2 hp⟩, ?_⟩
      rw [upd_same]
      unfold lastsL
      rw [show 1 + (i + 1) = (1 + i) + 1 by omega, List.range_succ, List.map_append]
      rfl
    · rintro σ' H2 ⟨⟨x4, rfl⟩, fq, hp2⟩
      rw [show 1 + (((u.length : Nat) : Int) + 1 - ((1 : Nat) : Int)).toNat = u.length + 1 by omega] at hp2
      exact ⟨_, rfl, q p H2 hp fq hp2⟩
theorem sc_lasts : FnScope ["follows", "text"] ["follows", "text"] (defScope (top 30)) := ⟨rfl, rfl, rfl, by decide +kernel, rfl, by decide +kernel, by decide +kernel⟩
theorem ok_lasts (T : Txt K mg CT CF) (h0 : Here K mg "lasts" (top 30)) (d_longer_lasts : DefC P w K mg base 7 "longer_lasts" (spLonger CT CF)) (d_look_at_text : DefC P w K mg base 2 "look_at_text" (spLookText CT)) (m_table : MetC P w K mg base 1 CF "table" (spFTable CT CF)) : DefC P w K mg base 8 "lasts" (spLasts CT CF) := by
  refine def_of h0 sc_lasts (fun _ _ _ _ _ _ us hl => match us, hl with | [_, _], _ => rfl) (fun vs H Q E h => ?_) (fun f cdv A outer s H vs Q E hr h => ?_)
  · (first | (obtain ⟨_, rfl, _⟩ := h; rfl) | (obtain ⟨_, _, rfl, _⟩ := h; rfl) | (obtain ⟨_, _, _, rfl, _⟩ := h; rfl) | (obtain ⟨_, _, _, _, rfl, _⟩ := h; rfl) | (obtain ⟨_, _, _, _, _, rfl, _⟩ := h; rfl) | (obtain ⟨_, _, _, _, _, _, rfl, _⟩ := h; rfl) | (obtain ⟨_, _, _, _, _, _, _, rfl, _⟩ := h; rfl) | (obtain ⟨_, _, _, _, _, _, _, _, rfl, _⟩ := h; rfl))
  · have hu := hu_of hr
    obtain ⟨f0, t, bp, d, T0, u, rfl, hF, ht, q⟩ := h
    obtain ⟨dx, ka, kvs, e1, e2, e3, e4⟩ := hF.ex
    have ok := hF.tab.ok
    refine ⟨_, (pss_cons (ps_expr (pcl d_look_at_text hr (by decide) (by rfl) (pa_cons (pmt0 m_table hr (by decide) (pv 0)) (pa_cons (pv 1) pa_nil))))
      (pss_one (ps_ret (pcl d_longer_lasts hr (by decide) (by rfl) (pa_cons (pv 0) (pa_cons (pv 1) (pa_cons (pe_lst (pa_cons pe_non pa_nil)) pa_nil))))))), ?_⟩
    refine ⟨_, rfl, f0, dx, _, rfl, e1, ffl_no (by decide +kernel), f0, t, bp, d, T0, rfl, hF, _, rfl, t, bp, T0, u, rfl, hF.tab, ht.1, fun H1 s1 => ?_⟩
    have F1 := hF.same s1
    refine ⟨_, rfl, _, rfl, by show 1 ≤ sizeLine; decide, fun z hz => ?_⟩
    have s2 := same_new (o := .lst [.non]) hz
    have e0 : lastsL T0 u 1 = [.non] := by
      show [lastP T0 u 0] = [.non]
      unfold lastP
      rw [List.take_zero, cut_nil ok]
      rfl
    refine ⟨f0, t, bp, d, T0, u, z, rfl, F1.same s2, ht, by rw [e0]; exact upd_same, fun p H2 hp fq hl => ?_⟩
    have s12 := s1.trans s2
    have hp0 : H p = none := s12.free hp
    exact q p H2 hp0 ⟨(s12.but d).trans fq.1, fq.2⟩ hl
theorem sc_firsts : FnScope ["follows", "text", "found", "begin"] ["follows", "text"] (defScope (top 31)) := ⟨rfl, rfl, rfl, by decide +kernel, rfl, by decide +kernel, by decide +kernel⟩
theorem ok_firsts (T : Txt K mg CT CF) (h0 : Here K mg "firsts" (top 31)) (d_first_at : DefC P w K mg base 6 "first_at" (spFirstAt CT CF)) (d_look_at_text : DefC P w K mg base 2 "look_at_text" (spLookText CT)) (m_table : MetC P w K mg base 1 CF "table" (spFTable CT CF)) : DefC P w K mg base 7 "firsts" (spFirsts CT CF) := by
  refine def_of h0 sc_firsts (fun _ _ _ _ _ _ us hl => match us, hl with | [_, _], _ => rfl) (fun vs H Q E h => ?_) (fun f cdv A outer s H vs Q E hr h => ?_)
  · (first | (obtain ⟨_, rfl, _⟩ := h; rfl) | (obtain ⟨_, _, rfl, _⟩ := h; rfl) | (obtain ⟨_, _, _, rfl, _⟩ := h; rfl) | (obtain ⟨_, _, _, _, rfl, _⟩ := h; rfl) | (obtain ⟨_, _, _, _, _, rfl, _⟩ := h; rfl) | (obtain ⟨_, _, _, _, _, _, rfl, _⟩ := h; rfl) | (obtain ⟨_, _, _, _, _, _, _, rfl, _⟩ := h; rfl) | (obtain ⟨_, _, _, _, _, _, _, _, rfl, _⟩ := h; rfl))
  · have hu := hu_of hr
    obtain ⟨f0, t, bp, d, T0, u, rfl, hF, ht, q⟩ := h
    obtain ⟨dx, ka, kvs, e1, e2, e3, e4⟩ := hF.ex
    have ok := hF.tab.ok
    have ul := ht.2
    refine ⟨_, (pss_cons (ps_expr (pcl d_look_at_text hr (by decide) (by rfl) (pa_cons (pmt0 m_table hr (by decide) (pv 0)) (pa_cons (pv 1) pa_nil))))
      (pss_cons (ps_set (i := 2) sc_firsts.nd rfl (Or.inl rfl) (pe_op op_rep (pe_lst (pa_cons pe_non pa_nil)) (pe_op op_add (pe_callB call_len_str (by rfl) T.len PySem.boot_len (pa_cons (pv 1) pa_nil)) pe_int)))
      (pss_cons (ps_for PassesOwn.never rfl (pi_range3 (by rfl) T.range (pa_cons (pe_op op_sub (pe_callB call_len_str (by rfl) T.len PySem.boot_len (pa_cons (pv 1) pa_nil)) pe_int) (pa_cons (pe_un un_neg pe_int) (pa_cons (pe_un un_neg pe_int) pa_nil)))) (pg_name (i := 3) sc_firsts.nd rfl (Or.inl rfl)) (pss_one (ps_asg (pcl d_first_at hr (by decide) (by rfl) (pa_cons (pv 0) (pa_cons (pv 1) (pa_cons (pv 2) (pa_cons (pv 3) pa_nil))))) (pg_sub (pv 2) (pv 3) set_list))))
      (pss_one (ps_ret (pv 2)))))), ?_⟩
    refine ⟨_, rfl, f0, dx, _, rfl, e1, ffl_no (by decide +kernel), f0, t, bp, d, T0, rfl, hF, _, rfl, t, bp, T0, u, rfl, hF.tab, ht.1, fun H1 s1 => ?_⟩
    have F1 := hF.same s1
    refine ⟨by show 1 ≤ sizeLine; decide, fun z hz => ?_⟩
    refine ⟨_, rfl, _, rfl, small (by rw [len_S]; omega), _, _, rfl, rfl, z, _, [.non], rfl, rfl, upd_same, by omega, by rw [len_S]; omega, ?_, fun p hp => ?_⟩
    · rw [len_S, show (((u.length : Nat) : Int) + 1).toNat = u.length + 1 by omega]
      exact small (by simp; omega)
    have s2 := s1.trans (same_new (o := .lst [.non]) hz)
    have np : H p = none := s2.free hp
    have s3 := s2.trans (same_new (o := .lst (List.replicate (((S u).length : Int) + 1).toNat [V.non]).flatten) hp)
    have pd : p ≠ d := (ne_of_none (s2 _ _ e3) hp).symm
    rw [len_S, show (((u.length : Nat) : Int) + 1).toNat = u.length + 1 by omega, firstsL_all ok (T := T0)] at s3 ⊢
    refine ⟨_, rfl, _, rfl, small (by rw [len_S]; omega), _, _, rfl, rfl, 1, rfl, 1, rfl, _, _, _, u.length, rfl, ?_, ?_⟩
    · rw [len_S]
      have := RgC.neg (i := ((u.length : Nat) : Int) - 1) (j := -1) (by omega) (by omega) (by omega) (by omega)
      rw [show (((u.length : Nat) : Int) - 1 - -1).toNat = u.length by omega] at this
      exact this
    rw [len_S]
    refine for_rangeC (lo := ((u.length : Nat) : Int) - 1) (c := -1) (n := u.length) (fun i σ' H' => (∃ x3, σ' = [some (V.ref f0), some (vS u), some (V.ref p), x3]) ∧ FQ CT CF H H' f0 t bp d T0 ∧ H' p = some (.lst (firstsL T0 u (u.length - i))))
      ⟨⟨_, rfl⟩, ⟨s3.but d, hF.same s3⟩, upd_same⟩ ?_ ?_
    · rintro i σ' H2 hi ⟨⟨x3, rfl⟩, fq, hp2⟩
      obtain ⟨b, hb⟩ : ∃ b : Nat, b = u.length - 1 - i := ⟨_, rfl⟩
      rw [show ((u.length : Nat) : Int) - 1 + (i : Int) * -1 = (b : Int) by omega]
      rw [show u.length - i = b + 1 by omega] at hp2
      refine ⟨_, rfl, _, rfl, _, rfl, _, rfl, f0, t, bp, d, T0, u, p, b, rfl, fq.2, ht, by omega, hp2, fun H3 fq3 => ?_⟩
      have hp3 := fq3.1 _ _ pd hp2
      refine ⟨_, rfl, _, rfl, p, _, _, b, rfl, rfl, hp3, ?_, ⟨_, rfl⟩, ⟨(fq.1.trans fq3.1).mut np, hF.mut (fq.1.trans fq3.1) fq3.2 np⟩, ?_⟩
      · unfold ixN
        rw [if_pos (by omega), if_pos (by rw [firstsL_len]; omega), Int.toNat_natCast]
      · rw [upd_same, firstsL_set (by omega), show u.length - (i + 1) = b by omega]
    · rintro σ' H2 ⟨⟨x3, rfl⟩, fq, hp2⟩
      rw [Nat.sub_self] at hp2
      exact ⟨_, rfl, q p H2 np fq hp2⟩
end
end JR
namespace JR
open PySem PySem.Spec PyProof.Rows L2 SX
section
variable {P : Program} {w : World} {K : PySem.W.Frag} {mg : Str → Option Value} {base : Heap} {CT CF : Addr}
theorem sc_read_on : FnScope ["follows", "text", "found", "row", "place"] ["follows", "text"] (defScope (top 32)) := ⟨rfl, rfl, rfl, by decide +kernel, rfl, by decide +kernel, by decide +kernel⟩
theorem ok_read_on (T : Txt K mg CT CF) (h0 : Here K mg "read_on" (top 32)) (d_firsts : DefC P w K mg base 7 "firsts" (spFirsts CT CF)) : DefC P w K mg base 8 "read_on" (spRead CT CF) := by
  refine def_of h0 sc_read_on (fun _ _ _ _ _ _ us hl => match us, hl with | [_, _], _ => rfl) (fun vs H Q E h => ?_) (fun f cdv A outer s H vs Q E hr h => ?_)
  · (first | (obtain ⟨_, rfl, _⟩ := h; rfl) | (obtain ⟨_, _, rfl, _⟩ := h; rfl) | (obtain ⟨_, _, _, rfl, _⟩ := h; rfl) | (obtain ⟨_, _, _, _, rfl, _⟩ := h; rfl) | (obtain ⟨_, _, _, _, _, rfl, _⟩ := h; rfl) | (obtain ⟨_, _, _, _, _, _, rfl, _⟩ := h; rfl) | (obtain ⟨_, _, _, _, _, _, _, rfl, _⟩ := h; rfl) | (obtain ⟨_, _, _, _, _, _, _, _, rfl, _⟩ := h; rfl))
  · have hu := hu_of hr
    obtain ⟨f0, t, bp, d, T0, u, rfl, hF, ht, q⟩ := h
    obtain ⟨dx, ka, kvs, e1, e2, e3, e4⟩ := hF.ex
    have ok := hF.tab.ok
    have ul := ht.2
    refine ⟨_, (pss_cons (ps_set (i := 2) sc_read_on.nd rfl (Or.inl rfl) (pcl d_firsts hr (by decide) (by rfl) (pa_cons (pv 0) (pa_cons (pv 1) pa_nil))))
      (pss_cons (ps_set (i := 3) sc_read_on.nd rfl (Or.inl rfl) (pe_lst pa_nil))
      (pss_cons (ps_set (i := 4) sc_read_on.nd rfl (Or.inl rfl) pe_int)
      (pss_cons (ps_while PassesOwn.never (pt_cmpR op_lt (pv 4) (pe_callB call_len_str (by rfl) T.len PySem.boot_len (pa_cons (pv 1) pa_nil)) (nomark _)) (pss_cons (ps_expr (pe_bm PySem.F.plainAttrs_list PySem.F.slot_list_append PySem.F.type_list_append mt_append (pv 3) (pa_cons (pe_ix ix_list (pv 2) (pv 4) (fun _ _ => rfl)) pa_nil)))
      (pss_one (ps_aug (i := 4) sc_read_on.nd rfl (Or.inl rfl) (pe_callB call_len_str (by rfl) T.len PySem.boot_len (pa_cons (pe_ix ix_list (pv 2) (pv 4) (fun _ _ => rfl)) pa_nil)) ip_add))))
      (pss_one (ps_ret (pv 3))))))), ?_⟩
    refine ⟨_, rfl, _, rfl, f0, t, bp, d, T0, u, rfl, hF, ht, fun fa H1 nfa fq hfa => ?_⟩
    refine ⟨by show 0 ≤ sizeLine; decide, fun p hp => ?_⟩
    have fad : fa ≠ d := fq.2.lst hfa
    have fd0 : f0 ≠ d := ne_of e1 e3 (by intro z; cases z)
    obtain ⟨kv1, e31, _⟩ := fq.2.mem
    have pd : p ≠ d := (ne_of_none e31 hp).symm
    have s1 := same_new (o := .lst []) hp
    have np : H p = none := by
      cases e : H p with
      | none => rfl
      | some o => rw [fq.1 p o pd e] at hp; cases hp
    have F2 := fq.2.same s1
    refine ⟨fun m σ' H' => ∃ (pl : Nat) (row : Rw), m = u.length - pl ∧ pl ≤ u.length ∧ σ' = [some (V.ref f0), some (vS u), some (V.ref fa), some (V.ref p), some (.int (pl : Int))] ∧ Same H1 H' ∧ LstAt H' p row ∧ row.length ≤ pl ∧ Cut T0.rows u = row ++ Cut T0.rows (u.drop pl), ⟨_, 0, [], rfl, Nat.zero_le _, rfl, s1, upd_same, Nat.le_refl _, rfl⟩, ?_⟩
    rintro m σ' H' ⟨pl, row, rfl, hpl, rfl, s2, hrow, hrl, hcut⟩
    have hfa2 := s2 _ _ hfa
    have pfa : fa ≠ p := ne_of_none hfa hp
    refine ⟨_, rfl, _, rfl, _, rfl, small (by rw [len_S]; omega), _, _, rfl, rfl, _, rfl, ?_⟩
    rw [len_S]
    refine ite2 (fun hlt => ?_) (fun hlt => ?_)
    · have hlt : pl < u.length := by have := of_decide_eq_true hlt; omega
      obtain ⟨n, p0, hn1, hn2, _, hpm, _, hpl0, hc, _⟩ := first_ex ok ht.1 hlt
      have hget : (firstsL T0 u 0)[pl]? = some (vS p0) := by
        rw [firstsL_get hpl, if_neg (Nat.not_lt_zero _), firstP_of (p := p0) (by rw [hc]; rfl)]
      have l16 := piece_len ok p0 hpm
      refine ⟨fun σ2 H2 => ∃ (pl2 : Nat) (row2 : Rw), pl < pl2 ∧ pl2 ≤ u.length ∧ σ2 = [some (V.ref f0), some (vS u), some (V.ref fa), some (V.ref p), some (.int (pl2 : Int))] ∧ Same H1 H2 ∧ LstAt H2 p row2 ∧ row2.length ≤ pl2 ∧ Cut T0.rows u = row2 ++ Cut T0.rows (u.drop pl2), ?_, ?_⟩
      · rintro σ2 H2 ⟨pl2, row2, a1, a2, a3, a4⟩
        exact ⟨_, (by omega : u.length - pl2 < u.length - pl), pl2, row2, rfl, a2, a3, a4⟩
      · refine ⟨_, rfl, .inl ⟨rfl, _, SqL.of hrow⟩, _, rfl, _, rfl, fa, _, _, vS p0, rfl, rfl, SqL.of hfa2, atI_nat hget, p, _, _, rfl, rfl, hrow, by rw [List.length_map]; exact smallLt (by omega), ?_⟩
        refine ⟨_, rfl, _, rfl, _, rfl, fa, _, _, vS p0, rfl, rfl, SqL.of (by rw [upd_ne pfa]; exact hfa2), atI_nat hget, _, rfl, small (by rw [len_S]; omega), _, _, rfl, rfl, n, row ++ [p0], hn1, hn2, ?_, s2.mut hp, ?_, ?_, ?_⟩
        · rw [len_S]; show [_, _, _, _, some (V.int ((pl : Int) + ((p0.length : Nat) : Int)))] = _
          rw [show (pl : Int) + ((p0.length : Nat) : Int) = (n : Int) by omega]
        · unfold LstAt; rw [upd_same, List.map_append]; rfl
        · rw [List.length_append]; simp; omega
        · rw [hcut, hc]; simp
    · have hlt : pl = u.length := by
        have : ¬ (pl : Int) < ((u.length : Nat) : Int) := fun z => hlt (decide_eq_true z)
        omega
      subst hlt
      rw [List.drop_length, cut_nil ok, List.append_nil] at hcut
      refine ⟨_, rfl, q p H' np ⟨fq.1.trans (s2.but d), fq.2.same s2⟩ ?_⟩
      rw [hcut]; exact hrow
theorem sc_read_back : FnScope ["follows", "text", "found", "row", "place"] ["follows", "text"] (defScope (top 33)) := ⟨rfl, rfl, rfl, by decide +kernel, rfl, by decide +kernel, by decide +kernel⟩
theorem ok_read_back (T : Txt K mg CT CF) (h0 : Here K mg "read_back" (top 33)) (d_lasts : DefC P w K mg base 8 "lasts" (spLasts CT CF)) : DefC P w K mg base 9 "read_back" (spRead CT CF) := by
  refine def_of h0 sc_read_back (fun _ _ _ _ _ _ us hl => match us, hl with | [_, _], _ => rfl) (fun vs H Q E h => ?_) (fun f cdv A outer s H vs Q E hr h => ?_)
  · (first | (obtain ⟨_, rfl, _⟩ := h; rfl) | (obtain ⟨_, _, rfl, _⟩ := h; rfl) | (obtain ⟨_, _, _, rfl, _⟩ := h; rfl) | (obtain ⟨_, _, _, _, rfl, _⟩ := h; rfl) | (obtain ⟨_, _, _, _, _, rfl, _⟩ := h; rfl) | (obtain ⟨_, _, _, _, _, _, rfl, _⟩ := h; rfl) | (obtain ⟨_, _, _, _, _, _, _, rfl, _⟩ := h; rfl) | (obtain ⟨_, _, _, _, _, _, _, _, rfl, _⟩ := h; rfl))
  · have hu := hu_of hr
    obtain ⟨f0, t, bp, d, T0, u, rfl, hF, ht, q⟩ := h
    obtain ⟨dx, ka, kvs, e1, e2, e3, e4⟩ := hF.ex
    have ok := hF.tab.ok
    have ul := ht.2
    refine ⟨_, (pss_cons (ps_set (i := 2) sc_read_back.nd rfl (Or.inl rfl) (pcl d_lasts hr (by decide) (by rfl) (pa_cons (pv 0) (pa_cons (pv 1) pa_nil))))
      (pss_cons (ps_set (i := 3) sc_read_back.nd rfl (Or.inl rfl) (pe_lst pa_nil))
      (pss_cons (ps_set (i := 4) sc_read_back.nd rfl (Or.inl rfl) (pe_callB call_len_str (by rfl) T.len PySem.boot_len (pa_cons (pv 1) pa_nil)))
      (pss_cons (ps_while PassesOwn.never (pt_cmpR op_gt (pv 4) pe_int (nomark _)) (pss_cons (ps_expr (pe_bm PySem.F.plainAttrs_list PySem.F.slot_list_append PySem.F.type_list_append mt_append (pv 3) (pa_cons (pe_ix ix_list (pv 2) (pv 4) (fun _ _ => rfl)) pa_nil)))
      (pss_one (ps_aug (i := 4) sc_read_back.nd rfl (Or.inl rfl) (pe_callB call_len_str (by rfl) T.len PySem.boot_len (pa_cons (pe_ix ix_list (pv 2) (pv 4) (fun _ _ => rfl)) pa_nil)) ip_sub))))
      (pss_one (ps_ret (pe_revL (pv 3)))))))), ?_⟩
    refine ⟨_, rfl, _, rfl, f0, t, bp, d, T0, u, rfl, hF, ht, fun fa H1 nfa fq hfa => ?_⟩
    refine ⟨by show 0 ≤ sizeLine; decide, fun p hp => ?_⟩
    have fad : fa ≠ d := fq.2.lst hfa
    obtain ⟨kv1, e31, _⟩ := fq.2.mem
    have pd : p ≠ d := (ne_of_none e31 hp).symm
    have s1 := same_new (o := .lst []) hp
    refine ⟨_, rfl, _, rfl, small (by rw [len_S]; omega), ?_⟩
    rw [len_S]
    refine ⟨fun m σ' H' => ∃ (pl : Nat) (row : Rw), pl = m ∧ pl ≤ u.length ∧ σ' = [some (V.ref f0), some (vS u), some (V.ref fa), some (V.ref p), some (.int (pl : Int))] ∧ Same H1 H' ∧ LstAt H' p row ∧ row.length + pl ≤ u.length ∧ Cut T0.rows u = Cut T0.rows (u.take pl) ++ row.reverse, ⟨_, u.length, [], rfl, Nat.le_refl _, rfl, s1, upd_same, by simp, by simp⟩, ?_⟩
    rintro m σ' H' ⟨pl, row, rfl, hpl, rfl, s2, hrow, hrl, hcut⟩
    have hfa2 := s2 _ _ hfa
    have pfa : fa ≠ p := ne_of_none hfa hp
    refine ⟨_, rfl, _, _, rfl, rfl, _, rfl, ?_⟩
    refine ite2 (fun hlt => ?_) (fun hlt => ?_)
    · have hlt : 0 < pl := by have := of_decide_eq_true hlt; omega
      obtain ⟨b, p0, hb1, _, hpm, _, hpl0, hlast, hc, _⟩ := last_ex ok ht.1 hlt hpl
      have hget : (lastsL T0 u (u.length + 1))[pl]? = some (vS p0) := by
        rw [lastsL_get (by omega), lastP_of hlast]
      have l16 := piece_len ok p0 hpm
      refine ⟨fun σ2 H2 => ∃ (pl2 : Nat) (row2 : Rw), pl2 < pl ∧ pl2 ≤ u.length ∧ σ2 = [some (V.ref f0), some (vS u), some (V.ref fa), some (V.ref p), some (.int (pl2 : Int))] ∧ Same H1 H2 ∧ LstAt H2 p row2 ∧ row2.length + pl2 ≤ u.length ∧ Cut T0.rows u = Cut T0.rows (u.take pl2) ++ row2.reverse, ?_, ?_⟩
      · rintro σ2 H2 ⟨pl2, row2, a1, a2, a3, a4⟩
        exact ⟨_, a1, pl2, row2, rfl, a2, a3, a4⟩
      · refine ⟨_, rfl, .inl ⟨rfl, _, SqL.of hrow⟩, _, rfl, _, rfl, fa, _, _, vS p0, rfl, rfl, SqL.of hfa2, atI_nat hget, p, _, _, rfl, rfl, hrow, by rw [List.length_map]; exact smallLt (by omega), ?_⟩
        refine ⟨_, rfl, _, rfl, _, rfl, fa, _, _, vS p0, rfl, rfl, SqL.of (by rw [upd_ne pfa]; exact hfa2), atI_nat hget, _, rfl, small (by rw [len_S]; omega), _, _, rfl, rfl, b, row ++ [p0], hb1, by omega, ?_, s2.mut hp, ?_, ?_, ?_⟩
        · rw [len_S]; show [_, _, _, _, some (V.int ((pl : Int) - ((p0.length : Nat) : Int)))] = _
          rw [show (pl : Int) - ((p0.length : Nat) : Int) = (b : Int) by omega]
        · unfold LstAt; rw [upd_same, List.map_append]; rfl
        · rw [List.length_append]; simp; omega
        · rw [hcut, hc]; simp
    · have hlt : pl = 0 := by
        have : ¬ (0 : Int) < (pl : Int) := fun z => hlt (decide_eq_true z)
        omega
      subst hlt
      rw [List.take_zero, cut_nil ok, List.nil_append] at hcut
      refine ⟨_, rfl, p, _, rfl, SqL.of hrow, fun p2 hp2 => ?_⟩
      have s3 := s2.trans (same_new (o := .lst (row.map vS).reverse) hp2)
      have p2d : p2 ≠ d := (ne_of_none (s2 _ _ e31) hp2).symm
      have np2 : H p2 = none := by
        have h1 := s2.free hp2
        cases e : H p2 with
        | none => rfl
        | some o => rw [fq.1 p2 o p2d e] at h1; cases h1
      refine q p2 _ np2 ⟨fq.1.trans (s3.but d), fq.2.same s3⟩ ?_
      unfold LstAt
      rw [upd_same, hcut, List.map_reverse]
end
end JR
namespace JR
open PySem PySem.Spec PyProof.Rows L2 SX
section
variable {P : Program} {w : World} {K : PySem.W.Frag} {mg : Str → Option Value} {base : Heap} {CT CF : Addr}
theorem sc_law_cell_at : FnScope ["_law_script", "_law_k"] ["_law_script", "_law_k"] (defScope (top 44)) := ⟨rfl, rfl, rfl, by decide +kernel, rfl, by decide +kernel, by decide +kernel⟩
theorem ok_law_cell_at (T : Txt K mg CT CF) (h0 : Here K mg "_law_cell_at" (top 44))  : DefC P w K mg base 1 "_law_cell_at" (spCell K) := by
  refine def_of h0 sc_law_cell_at (fun _ _ _ _ _ _ us hl => match us, hl with | [_, _], _ => rfl) (fun vs H Q E h => ?_) (fun f cdv A outer s H vs Q E hr h => ?_)
  · (first | (obtain ⟨_, rfl, _⟩ := h; rfl) | (obtain ⟨_, _, rfl, _⟩ := h; rfl) | (obtain ⟨_, _, _, rfl, _⟩ := h; rfl) | (obtain ⟨_, _, _, _, rfl, _⟩ := h; rfl) | (obtain ⟨_, _, _, _, _, rfl, _⟩ := h; rfl) | (obtain ⟨_, _, _, _, _, _, rfl, _⟩ := h; rfl) | (obtain ⟨_, _, _, _, _, _, _, rfl, _⟩ := h; rfl) | (obtain ⟨_, _, _, _, _, _, _, _, rfl, _⟩ := h; rfl))
  · have hu := hu_of hr
    obtain ⟨a, ns, rfl, ha, q⟩ := h
    refine ⟨_, (pss_cons (ps_if (pt_cmpR op_lt (pv 1) (pe_callB call_len_seq (by rfl) T.len PySem.boot_len (pa_cons (pv 0) pa_nil)) (nomark _)) (pss_one (ps_ret (pe_ix ix_list (pv 0) (pv 1) (fun _ _ => rfl)))) pss_nil)
      (pss_one (ps_ret pe_int))), ?_⟩
    refine ⟨_, rfl, _, rfl, a, _, rfl, .inl ha, _, _, rfl, rfl, _, rfl, ?_⟩
    rw [List.length_map]
    refine ite2 (fun hl => ?_) (fun hl => ?_)
    · have hl' : 0 < ns.length := by have := of_decide_eq_true hl; omega
      exact ⟨_, rfl, _, rfl, a, _, _, V.int ns[0], rfl, rfl, ha, atI_nat (j := 0) (by rw [List.getElem?_map, List.getElem?_eq_getElem hl']; rfl), q _⟩
    · exact q 0
theorem sc_law_numbers : FnScope ["_law_cell", "_law_salt", "_law_sizes", "_law_number", "_law_left", "_law_found", "_law_k", "_law_one"] ["_law_cell", "_law_salt", "_law_sizes"] (defScope (top 45)) := ⟨rfl, rfl, rfl, by decide +kernel, rfl, by decide +kernel, by decide +kernel⟩
theorem ok_law_numbers (T : Txt K mg CT CF) (h0 : Here K mg "_law_numbers" (top 45))  : DefC P w K mg base 1 "_law_numbers" (spNumbers) := by
  refine def_of h0 sc_law_numbers (fun _ _ _ _ _ _ us hl => match us, hl with | [_, _, _], _ => rfl) (fun vs H Q E h => ?_) (fun f cdv A outer s H vs Q E hr h => ?_)
  · (first | (obtain ⟨_, rfl, _⟩ := h; rfl) | (obtain ⟨_, _, rfl, _⟩ := h; rfl) | (obtain ⟨_, _, _, rfl, _⟩ := h; rfl) | (obtain ⟨_, _, _, _, rfl, _⟩ := h; rfl) | (obtain ⟨_, _, _, _, _, rfl, _⟩ := h; rfl) | (obtain ⟨_, _, _, _, _, _, rfl, _⟩ := h; rfl) | (obtain ⟨_, _, _, _, _, _, _, rfl, _⟩ := h; rfl) | (obtain ⟨_, _, _, _, _, _, _, _, rfl, _⟩ := h; rfl))
  · have hu := hu_of hr
    obtain ⟨cell, salt, a, sizes, rfl, hs0, hs1, ha, hl, hb, q⟩ := h
    refine ⟨_, (pss_cons (ps_set (i := 3) sc_law_numbers.nd rfl (Or.inl rfl) (pe_callB (call_max2 rfl) (by rfl) T.max boot_maxB (pa_cons (pv 0) (pa_cons (pe_op op_sub (pe_un un_neg pe_int) (pv 0)) pa_nil))))
      (pss_cons (ps_set (i := 4) sc_law_numbers.nd rfl (Or.inl rfl) (pv 3))
      (pss_cons (ps_set (i := 5) sc_law_numbers.nd rfl (Or.inl rfl) (pe_lst pa_nil))
      (pss_cons (ps_for PassesOwn.never rfl (pi_range1 (by rfl) T.range (pa_cons (pe_callB call_len_seq (by rfl) T.len PySem.boot_len (pa_cons (pv 2) pa_nil)) pa_nil)) (pg_name (i := 6) sc_law_numbers.nd rfl (Or.inl rfl)) (pss_one (ps_if (PW.pt (pw_and (pt_cmpR op_ge (pv 3) (pe_op op_pow pe_int pe_int) (nomark _)) (pw_and1 (pt_cmpR op_gt (pv 4) pe_int (nomark _))))) (pss_cons (ps_expr (pe_bm PySem.F.plainAttrs_list PySem.F.slot_list_append PySem.F.type_list_append mt_append (pv 5) (pa_cons (pe_op op_mod (pv 4) (pe_ix ix_list (pv 2) (pv 6) (fun _ _ => rfl))) pa_nil)))
      (pss_one (ps_set (i := 4) sc_law_numbers.nd rfl (Or.inl rfl) (pe_op op_fdiv (pv 4) (pe_ix ix_list (pv 2) (pv 6) (fun _ _ => rfl)))))) (pss_cons (ps_set (i := 7) sc_law_numbers.nd rfl (Or.inl rfl) (pe_op op_mod (pe_op op_pow (pe_op op_add (pe_op op_add (pe_op op_mod (pv 3) pe_int) (pe_op op_mul pe_int (pv 1))) pe_int) pe_int) pe_int))
      (pss_cons (ps_set (i := 7) sc_law_numbers.nd rfl (Or.inl rfl) (pe_op op_mod (pe_op op_mul (pe_op op_add (pv 7) (pe_op op_mul pe_int (pe_op op_add (pv 6) pe_int))) (pe_op op_add (pv 6) pe_int)) pe_int))
      (pss_cons (ps_set (i := 7) sc_law_numbers.nd rfl (Or.inl rfl) (pe_op op_mod (pe_op op_mul (pe_op op_mod (pe_op op_pow (pv 7) pe_int) pe_int) pe_int) pe_int))
      (pss_one (ps_expr (pe_bm PySem.F.plainAttrs_list PySem.F.slot_list_append PySem.F.type_list_append mt_append (pv 5) (pa_cons (pe_op op_mod (pe_op op_fdiv (pv 7) pe_int) (pe_ix ix_list (pv 2) (pv 6) (fun _ _ => rfl))) pa_nil))))))))))
      (pss_one (ps_ret (pv 5))))))), ?_⟩
    refine ⟨_, rfl, _, rfl, _, rfl, _, _, rfl, rfl, _, _, rfl, ?_⟩
    have hnum : 0 ≤ (if (-1 : Int) - cell > cell then (-1 : Int) - cell else cell) := by split <;> omega
    generalize hnn : (if (-1 : Int) - cell > cell then (-1 : Int) - cell else cell) = num at hnum
    have hnn2 : (if -1 - cell > cell then -1 - cell else cell) = num := hnn
    show _
    refine ⟨_, rfl, by show 0 ≤ sizeLine; decide, fun p hp => ?_⟩
    have ap : a ≠ p := ne_of_none ha hp
    refine ⟨_, rfl, a, _, rfl, .inl (SqL.of (by rw [upd_ne ap]; exact ha)), _, rfl, by rw [List.length_map]; omega, by rw [List.length_map]; omega, ?_⟩
    rw [List.length_map]
    refine for_range (lo := 0) (n := ((sizes.length : Nat) : Int).toNat) (fun i σ' H' => ∃ (left : Int) (ds : List Nat) (x6 x7 : Option V), σ' = [some (V.int cell), some (V.int salt), some (V.ref a), some (V.int num), some (V.int left), some (V.ref p), x6, x7] ∧ 0 ≤ left ∧ Same H H' ∧ IntAt H' p ds ∧ Paired (fun d s => d < s) ds (sizes.take i)) ⟨num, [], _, _, rfl, hnum, same_new hp, upd_same, .nil⟩ ?_ ?_
    · rintro i σ' H1 hi ⟨left, ds, x6, x7, rfl, hleft, s1, hds, hpr⟩
      have hi : i < sizes.length := by omega
      obtain ⟨z, hz⟩ : ∃ z, sizes[i]? = some z := ⟨_, List.getElem?_eq_getElem hi⟩
      have hzb := hb z (List.mem_of_getElem? hz)
      have hzv : (sizes.map fun n : Nat => V.int (n : Int))[i]? = some (V.int (z : Int)) := by rw [List.getElem?_map, hz]; rfl
      have ha1 := s1 _ _ ha
      have hdl : ds.length = i := by rw [hpr.length, List.length_take]; omega
      have nxt : ∀ (v : Int) (H2 : Hp), 0 ≤ v → v < (z : Int) → Same H H2 → H2 = upd H1 p (.lst ((ds.map fun n : Nat => V.int (n : Int)) ++ [V.int v])) → ∃ ds', IntAt H2 p ds' ∧ Paired (fun d s => d < s) ds' (sizes.take (i + 1)) := by
        intro v H2 h1 h2 s2 e
        refine ⟨ds ++ [v.toNat], ?_, ?_⟩
        · rw [e]; unfold IntAt; rw [upd_same, List.map_append]
          show some (HO.lst (_ ++ [V.int v])) = some (HO.lst (_ ++ [V.int (v.toNat : Int)]))
          rw [Int.toNat_of_nonneg h1]
        · rw [List.take_add_one, hz]
          exact Paired.snoc hpr (by omega)
      have hB : ∀ v : Int, 0 ≤ v → ∃ v2 : Int, 0 ≤ v2 ∧ v2 < 2147483647 ∧ v % 2147483647 = v2 := fun v h => ⟨_, Int.emod_nonneg _ (by decide), Int.emod_lt_of_pos _ (by decide), rfl⟩
      have hM : ∀ v : Int, 0 ≤ v → ∃ v2 : Int, 0 ≤ v2 ∧ v2 < 2147483629 ∧ v % 2147483629 = v2 := fun v h => ⟨_, Int.emod_nonneg _ (by decide), Int.emod_lt_of_pos _ (by decide), rfl⟩
      have e0 : (0 : Int) + (i : Int) = (i : Int) := Int.zero_add _
      rw [e0]
      refine ⟨_, rfl, _, _, rfl, rfl, ⟨by decide, by decide, by decide⟩, _, _, rfl, rfl, _, rfl, ?_⟩
      have b64 : ∀ x : Int, (x % 2147483629).natAbs < 2 ^ 64 := fun x => by omega
      refine ite2 (fun h1 => ?_) (fun h1 => ?_)
      · refine ⟨_, rfl, _, _, rfl, rfl, _, rfl, ?_⟩
        refine ite2 (fun h2 => ?_) (fun h2 => ?_)
        · refine ⟨_, rfl, .inl ⟨rfl, _, SqL.of hds⟩, _, rfl, _, rfl, _, rfl, a, _, _, V.int (z : Int), rfl, rfl, SqL.of ha1, atI_nat hzv, _, _, rfl, rfl, by omega, p, _, _, rfl, rfl, hds, by rw [List.length_map]; exact smallLt (by omega), ?_⟩
          refine ⟨_, rfl, _, rfl, _, rfl, a, _, _, V.int (z : Int), rfl, rfl, SqL.of (by rw [upd_ne ap]; exact ha1), atI_nat hzv, _, _, rfl, rfl, ⟨by omega, by omega⟩, ?_⟩
          obtain ⟨ds', y1, y2⟩ := nxt _ _ (Int.emod_nonneg _ (by omega)) (Int.emod_lt_of_pos _ (by omega)) (s1.mut hp) rfl
          exact ⟨left / (z : Int), ds', _, _, rfl, Int.ediv_nonneg hleft (by omega), s1.mut hp, y1, y2⟩
        · refine ⟨_, rfl, _, _, rfl, rfl, (by show (0 : Int) < _; decide), _, rfl, _, _, rfl, rfl, .inl ⟨by decide, by decide⟩, _, _, rfl, rfl, _, _, rfl, rfl, _, _, rfl, rfl, ⟨by decide, by decide, by omega⟩, _, _, rfl, rfl, (by show (0 : Int) < _; decide), ?_⟩
          refine ⟨_, rfl, _, rfl, _, _, rfl, rfl, _, _, rfl, rfl, .inl ⟨by decide, by decide⟩, _, _, rfl, rfl, _, rfl, _, _, rfl, rfl, _, _, rfl, rfl, .inr ⟨by omega, by omega⟩, _, _, rfl, rfl, (by show (0 : Int) < _; decide), ?_⟩
          refine ⟨_, rfl, _, _, rfl, rfl, ⟨by decide, by decide, b64 _⟩, _, _, rfl, rfl, (by show (0 : Int) < _; decide), _, _, rfl, rfl, .inr ⟨by decide, by decide⟩, _, _, rfl, rfl, (by show (0 : Int) < _; decide), ?_⟩
          refine ⟨_, rfl, .inl ⟨rfl, _, SqL.of hds⟩, _, rfl, _, _, rfl, rfl, ⟨by decide, by decide⟩, _, rfl, _, rfl, a, _, _, V.int (z : Int), rfl, rfl, SqL.of ha1, atI_nat hzv, _, _, rfl, rfl, by omega, p, _, _, rfl, rfl, hds, by rw [List.length_map]; exact smallLt (by omega), ?_⟩
          obtain ⟨ds', y1, y2⟩ := nxt _ _ (Int.emod_nonneg _ (by omega)) (Int.emod_lt_of_pos _ (by omega)) (s1.mut hp) rfl
          exact ⟨left, ds', _, _, rfl, hleft, s1.mut hp, y1, y2⟩
      · refine ⟨_, rfl, _, _, rfl, rfl, (by show (0 : Int) < _; decide), _, rfl, _, _, rfl, rfl, .inl ⟨by decide, by decide⟩, _, _, rfl, rfl, _, _, rfl, rfl, _, _, rfl, rfl, ⟨by decide, by decide, by omega⟩, _, _, rfl, rfl, (by show (0 : Int) < _; decide), ?_⟩
        refine ⟨_, rfl, _, rfl, _, _, rfl, rfl, _, _, rfl, rfl, .inl ⟨by decide, by decide⟩, _, _, rfl, rfl, _, rfl, _, _, rfl, rfl, _, _, rfl, rfl, .inr ⟨by omega, by omega⟩, _, _, rfl, rfl, (by show (0 : Int) < _; decide), ?_⟩
        refine ⟨_, rfl, _, _, rfl, rfl, ⟨by decide, by decide, b64 _⟩, _, _, rfl, rfl, (by show (0 : Int) < _; decide), _, _, rfl, rfl, .inr ⟨by decide, by decide⟩, _, _, rfl, rfl, (by show (0 : Int) < _; decide), ?_⟩
        refine ⟨_, rfl, .inl ⟨rfl, _, SqL.of hds⟩, _, rfl, _, _, rfl, rfl, ⟨by decide, by decide⟩, _, rfl, _, rfl, a, _, _, V.int (z : Int), rfl, rfl, SqL.of ha1, atI_nat hzv, _, _, rfl, rfl, by omega, p, _, _, rfl, rfl, hds, by rw [List.length_map]; exact smallLt (by omega), ?_⟩
        obtain ⟨ds', y1, y2⟩ := nxt _ _ (Int.emod_nonneg _ (by omega)) (Int.emod_lt_of_pos _ (by omega)) (s1.mut hp) rfl
        exact ⟨left, ds', _, _, rfl, hleft, s1.mut hp, y1, y2⟩
    · rintro σ' H1 ⟨left, ds, x6, x7, rfl, hleft, s1, hds, hpr⟩
      refine ⟨_, rfl, q ds p H1 ⟨hp, s1⟩ ?_ hds⟩
      rw [show ((sizes.length : Nat) : Int).toNat = sizes.length by omega, List.take_of_length_le (Nat.le_refl _)] at hpr
      exact hpr
end
end JR
namespace JR
open PySem PySem.Spec PyProof.Rows L2 SX
section
variable {P : Program} {w : World} {K : PySem.W.Frag} {mg : Str → Option Value} {base : Heap} {CT CF : Addr}
theorem sc_law_signs : FnScope ["_law_digits", "_law_some", "_law_signs_here", "_law_digit", "_law_turned", "_law_sign"] ["_law_digits"] (defScope (top 46)) := ⟨rfl, rfl, rfl, by decide +kernel, rfl, by decide +kernel, by decide +kernel⟩
theorem ok_law_signs (T : Txt K mg CT CF) (h0 : Here K mg "_law_signs" (top 46))  : DefC P w K mg base 1 "_law_signs" (spLSigns) := by
  refine def_of h0 sc_law_signs (fun _ _ _ _ _ _ us hl => match us, hl with | [_], _ => rfl) (fun vs H Q E h => ?_) (fun f cdv A outer s H vs Q E hr h => ?_)
  · (first | (obtain ⟨_, rfl, _⟩ := h; rfl) | (obtain ⟨_, _, rfl, _⟩ := h; rfl) | (obtain ⟨_, _, _, rfl, _⟩ := h; rfl) | (obtain ⟨_, _, _, _, rfl, _⟩ := h; rfl) | (obtain ⟨_, _, _, _, _, rfl, _⟩ := h; rfl) | (obtain ⟨_, _, _, _, _, _, rfl, _⟩ := h; rfl) | (obtain ⟨_, _, _, _, _, _, _, rfl, _⟩ := h; rfl) | (obtain ⟨_, _, _, _, _, _, _, _, rfl, _⟩ := h; rfl))
  · have hu := hu_of hr
    obtain ⟨a, ds, rfl, ha, hl, hd, q⟩ := h
    refine ⟨_, (pss_cons (ps_set (i := 1) sc_law_signs.nd rfl (Or.inl rfl) pe_str)
      (pss_cons (ps_set (i := 1) sc_law_signs.nd rfl (Or.inl rfl) (pe_op op_add_str (pv 1) pe_str))
      (pss_cons (ps_set (i := 2) sc_law_signs.nd rfl (Or.inr rfl) pe_str)
      (pss_cons (ps_for PassesOwn.never rfl (pi_list (pv 0)) (pg_name (i := 3) sc_law_signs.nd rfl (Or.inl rfl)) (pss_cons (ps_set (i := 4) sc_law_signs.nd rfl (Or.inl rfl) (pe_op op_add_str (pe_slice sl_str (pv 1) (po_some (pv 3)) po_none) (pe_slice sl_str (pv 1) po_none (po_some (pv 3)))))
      (pss_one (ps_set (i := 2) sc_law_signs.nd rfl (Or.inr rfl) (pe_op op_add_str (pv 2) (pe_ix ix_list (pe_lc (own := [("_law_sign", 5)]) (by rfl) sc_law_signs.nd (pi_str (pv 4)) (blkOk_by (own := [("_law_sign", 5)]) (N := ["_law_digits", "_law_some", "_law_signs_here", "_law_digit", "_law_turned", "_law_sign"]) (sc := defScope (top 46)) (by decide +kernel)) (fun _ _ _ _ _ => pg_name (i := 5) sc_law_signs.nd rfl (Or.inl rfl)) (fun _ _ _ _ _ => pts_one (pt_cmpR op_notIn_sign (pv 5) (pv 2) rfl)) (fun _ _ _ _ _ => (pv 5))) pe_int (fun _ _ => rfl)))))))
      (pss_one (ps_ret (pv 2))))))), ?_⟩
    refine ⟨_, rfl, _, _, rfl, rfl, by show _ ≤ sizeLine; exact small (by decide +kernel), ?_⟩
    rw [tls_S]
    refine ⟨_, rfl, a, rfl, ⟨_, SqL.of ha⟩, for_list (xs := ds.map fun n : Nat => V.int (n : Int)) (fun i σ' H' => ∃ u x3 x4 x5, σ' = [some (V.ref a), some (vS tlS), some (vS u), x3, x4, x5] ∧ Same H H' ∧ u.Nodup ∧ (∀ c ∈ u, c ∈ tlS) ∧ u.length = i) ⟨[], _, _, _, rfl, Same.refl H, List.nodup_nil, (fun c hc => by cases hc), rfl⟩ (fun i σ' H' _ p => by obtain ⟨_, _, _, _, _, s1, _⟩ := p; exact SqL.of (s1 _ _ ha)) ?_ ?_⟩
    · rintro i x σ' H1 hx ⟨u, x3, x4, x5, rfl, s1, u1, u2, u3⟩
      have hil : i < ds.length := by have := (List.getElem?_eq_some_iff.mp hx).1; rw [List.length_map] at this; exact this
      obtain ⟨d, hd1, rfl⟩ : ∃ d, ds[i]? = some d ∧ x = V.int (d : Int) := by
        rw [List.getElem?_map] at hx
        cases e : ds[i]? with
        | none => rw [e] at hx; cases hx
        | some d => rw [e] at hx; exact ⟨d, rfl, (Option.some.inj hx).symm⟩
      refine ⟨_, rfl, _, rfl, _, rfl, _, rfl, small ?_, _, rfl, _, rfl, _, rfl, _, rfl, small ?_, _, _, rfl, rfl, small ?_, ?_⟩
      · rw [len_S, tls_len]; decide
      · rw [len_S, tls_len]; decide
      · rw [cutS_from, cutS_to, len_S, len_S, List.length_drop, List.length_take, tls_len]; omega
      rw [cutS_from, cutS_to, S_cat]
      refine ⟨_, rfl, ?_⟩
      have tm : ∀ c : Nat, c ∈ tlS.drop d ++ tlS.take d → c ∈ tlS := fun c hc => tls_mem' hc
      have tn := tls_new (u := u) (d := d) (by omega)
      have tl : (tlS.drop d ++ tlS.take d).length ≤ 188 := by rw [List.length_append, List.length_drop, List.length_take, tls_len]; omega
      generalize tlS.drop d ++ tlS.take d = tt at tm tn tl ⊢
      have tsz : (S tt).cps.size = tt.length := by simp [S]
      refine ⟨_, rfl, _, rfl, fun D hD => ?_⟩
      refine lc_it walk_str (fun i H' => Same H1 H' ∧ H' D = some (.lst (((tt.take i).filter (fun c => !decide (c ∈ u))).map fun c => vS [c]))) ⟨same_new hD, upd_same⟩ (fun _ _ _ _ => trivial) ?_ ?_
      · rintro k x H2 H3 hk ⟨s2, hD2⟩ ⟨rfl, c, hc, rfl⟩
        have hc' : tt[k]? = some c := by simpa [S] using hc
        refine ⟨rfl, ?_⟩
        refine ⟨_, rfl, _, rfl, c, _, rfl, rfl, _, rfl, ?_⟩
        show if (!decide (c ∈ (S u).cps.toList)) = true then _ else _
        rw [show decide (c ∈ (S u).cps.toList) = decide (c ∈ u) by simp [S]]
        have e5 := filter_succ (f := fun c => !decide (c ∈ u)) hc'
        refine ite2 (fun hn => ?_) (fun hn => ?_)
        · rw [if_pos hn] at e5
          refine ⟨_, rfl, _, hD2, ?_, s2.mut hD, ?_⟩
          · rw [List.length_map]
            exact smallLt (Nat.lt_of_le_of_lt (List.length_filter_le _ _) (by rw [List.length_take]; omega))
          · rw [upd_same, e5, List.map_append]; rfl
        · rw [if_neg hn, List.append_nil] at e5
          exact ⟨s2, by rw [e5]; exact hD2⟩
      rintro H2 ⟨s2, hD2⟩
      rw [tsz, List.take_length] at hD2
      obtain ⟨c0, r, hf⟩ : ∃ c0 r, tt.filter (fun c => !decide (c ∈ u)) = c0 :: r := by
        cases e : tt.filter (fun c => !decide (c ∈ u)) with
        | nil => exact absurd e tn
        | cons c0 r => exact ⟨c0, r, rfl⟩
      have hc0 := List.mem_filter.mp (show c0 ∈ tt.filter (fun c => !decide (c ∈ u)) by rw [hf]; exact List.mem_cons_self)
      have hcn : c0 ∉ u := by simpa using hc0.2
      rw [hf] at hD2
      refine ⟨D, _, _, vS [c0], rfl, rfl, SqL.of hD2, atI_nat (j := 0) rfl, _, _, rfl, rfl, small ?_, ?_⟩
      · rw [len_S, len_S]; simp; omega
      rw [S_cat]
      refine ⟨u ++ [c0], _, _, _, rfl, s1.trans s2, ?_, ?_, ?_⟩
      · exact List.nodup_append.mpr ⟨u1, by simp, fun a ha b hb e => by
          have : b = c0 := by simpa using hb
          exact hcn (by rw [← this, ← e]; exact ha)⟩
      · intro c hc
        rcases List.mem_append.mp hc with z | z
        · exact u2 c z
        · rw [show c = c0 by simpa using z]; exact tm _ hc0.1
      · rw [List.length_append, u3]; rfl
    · rintro σ' H1 ⟨u, x3, x4, x5, rfl, s1, u1, u2, u3⟩
      exact ⟨_, rfl, q u H1 s1 u1 u2 (by rw [u3, List.length_map])⟩
theorem sc_law_rows : FnScope ["_law_signs_here", "_law_digits", "_law_pieces", "_law_rows_here", "_law_k", "_law_one", "_law_other"] ["_law_signs_here", "_law_digits"] (defScope (top 47)) := ⟨rfl, rfl, rfl, by decide +kernel, rfl, by decide +kernel, by decide +kernel⟩
theorem ok_law_rows (T : Txt K mg CT CF) (h0 : Here K mg "_law_rows" (top 47))  : DefC P w K mg base 1 "_law_rows" (spLRows) := by
  refine def_of h0 sc_law_rows (fun _ _ _ _ _ _ us hl => match us, hl with | [_, _], _ => rfl) (fun vs H Q E h => ?_) (fun f cdv A outer s H vs Q E hr h => ?_)
  · (first | (obtain ⟨_, rfl, _⟩ := h; rfl) | (obtain ⟨_, _, rfl, _⟩ := h; rfl) | (obtain ⟨_, _, _, rfl, _⟩ := h; rfl) | (obtain ⟨_, _, _, _, rfl, _⟩ := h; rfl) | (obtain ⟨_, _, _, _, _, rfl, _⟩ := h; rfl) | (obtain ⟨_, _, _, _, _, _, rfl, _⟩ := h; rfl) | (obtain ⟨_, _, _, _, _, _, _, rfl, _⟩ := h; rfl) | (obtain ⟨_, _, _, _, _, _, _, _, rfl, _⟩ := h; rfl))
  · have hu := hu_of hr
    obtain ⟨u, a, ds, rfl, hs, ha, hl, q⟩ := h
    have ul := hs.2.2.2
    refine ⟨_, (pss_cons (ps_set (i := 2) sc_law_rows.nd rfl (Or.inl rfl) (pe_callTy (call_listS rfl) (by rfl) T.list boot_listT (pa_cons (pv 0) pa_nil)))
      (pss_cons (ps_set (i := 3) sc_law_rows.nd rfl (Or.inl rfl) (pe_lst pa_nil))
      (pss_cons (ps_for PassesOwn.never rfl (pi_range1 (by rfl) T.range (pa_cons (pe_op op_fdiv (pe_callB call_len_seq (by rfl) T.len PySem.boot_len (pa_cons (pv 1) pa_nil)) pe_int) pa_nil)) (pg_name (i := 4) sc_law_rows.nd rfl (Or.inl rfl)) (pss_cons (ps_set (i := 5) sc_law_rows.nd rfl (Or.inl rfl) (pe_ix ix_list (pv 2) (pe_op op_mod (pe_ix ix_list (pv 1) (pe_op op_mul pe_int (pv 4)) (fun _ _ => rfl)) (pe_callB call_len_seq (by rfl) T.len PySem.boot_len (pa_cons (pv 2) pa_nil))) (fun _ _ => rfl)))
      (pss_cons (ps_set (i := 6) sc_law_rows.nd rfl (Or.inl rfl) (pe_ix ix_list (pv 2) (pe_op op_mod (pe_ix ix_list (pv 1) (pe_op op_add (pe_op op_mul pe_int (pv 4)) pe_int) (fun _ _ => rfl)) (pe_callB call_len_seq (by rfl) T.len PySem.boot_len (pa_cons (pv 2) pa_nil))) (fun _ _ => rfl)))
      (pss_one (ps_if (PW.pt (pw_and (pt_cmpR op_le (pe_callB call_len_str (by rfl) T.len PySem.boot_len (pa_cons (pe_op op_add_str (pv 5) (pv 6)) pa_nil)) pe_int (nomark _)) (pw_and (pt_cmpR op_notIn_seq (pe_op op_add_str (pv 5) (pv 6)) (pv 2) (by rfl)) (pw_and1 (pt_cmpR op_lt (pe_callB call_len_seq (by rfl) T.len PySem.boot_len (pa_cons (pv 3) pa_nil)) pe_int (nomark _)))))) (pss_cons (ps_expr (pe_bm PySem.F.plainAttrs_list PySem.F.slot_list_append PySem.F.type_list_append mt_append (pv 3) (pa_cons (pe_tup (pa_cons (pv 5) (pa_cons (pv 6) pa_nil))) pa_nil)))
      (pss_one (ps_expr (pe_bm PySem.F.plainAttrs_list PySem.F.slot_list_append PySem.F.type_list_append mt_append (pv 2) (pa_cons (pe_op op_add_str (pv 5) (pv 6)) pa_nil))))) pss_nil)))))
      (pss_one (ps_ret (pv 3)))))), ?_⟩
    refine ⟨_, rfl, u, rfl, small (by omega), fun pl hpl => ?_⟩
    have s1 := same_new (o := .lst ((sg u).map vS)) hpl
    refine ⟨by show 0 ≤ sizeLine; decide, fun pr hpr => ?_⟩
    have npr := s1.free hpr
    have plr : pl ≠ pr := ne_of_none upd_same hpr
    have s2 := s1.trans (same_new (o := .lst []) hpr)
    have ha2 := s2 _ _ ha
    refine ⟨_, rfl, a, _, rfl, .inl (SqL.of ha2), _, _, rfl, rfl, ⟨by decide, by decide⟩, _, rfl, ?_, ?_, ?_⟩
    all_goals rw [List.length_map]
    · omega
    · omega
    refine for_range (lo := 0) (n := (((ds.length : Nat) : Int) / 2).toNat) (fun i σ' H' => ∃ (rows : List (Wd × Wd)) (x4 x5 x6 : Option V), σ' = [some (vS u), some (V.ref a), some (V.ref pl), some (V.ref pr), x4, x5, x6] ∧ Same H H' ∧ LstAt H' pl (Tab.mk u rows).pieces ∧ RowsAt H' pr rows ∧ TabOk ⟨u, rows⟩) ⟨[], _, _, _, rfl, s2, ?_, ⟨[], upd_same, .nil⟩, ok_nil hs⟩ ?_ ?_
    · unfold LstAt
      rw [upd_ne plr, upd_same]
      simp [Tab.pieces]
    · rintro i σ' H1 hi ⟨rows, x4, x5, x6, rfl, s3, hp1, hr1, ok⟩
      have hi2 : 2 * i + 1 < ds.length := by omega
      obtain ⟨d1, hd1⟩ : ∃ d, ds[2 * i]? = some d := ⟨_, List.getElem?_eq_getElem (by omega)⟩
      obtain ⟨d2, hd2⟩ : ∃ d, ds[2 * i + 1]? = some d := ⟨_, List.getElem?_eq_getElem hi2⟩
      have ha3 := s3 _ _ ha
      have p0 := pieces_pos ok
      have p36 := len36 ok
      obtain ⟨x, hx, hx1⟩ := row_mod d1 p0
      obtain ⟨y, hy, hy1⟩ := row_mod d2 p0
      have lx := piece_len ok.ok x hx
      have ly := piece_len ok.ok y hy
      have pos : (0 : Int) < ((((Tab.mk u rows).pieces.map vS).length : Nat) : Int) := by
        rw [List.length_map]; have := List.length_pos_iff.mpr p0; omega
      have e0 : (0 : Int) + (i : Int) = (i : Int) := Int.zero_add _
      rw [e0]
      refine ⟨_, rfl, _, rfl, _, rfl, _, _, rfl, rfl, .inl ⟨by decide, by decide⟩, a, _, _, V.int (d1 : Int), rfl, rfl, SqL.of ha3, atI_at (j := 2 * i) (by omega) (get_int hd1), _, rfl, pl, _, rfl, .inl (SqL.of hp1), _, _, rfl, rfl, pos, pl, _, _, vS x, rfl, rfl, SqL.of hp1, hx1, ?_⟩
      refine ⟨_, rfl, _, rfl, _, rfl, _, _, rfl, rfl, .inl ⟨by decide, by decide⟩, _, _, rfl, rfl, a, _, _, V.int (d2 : Int), rfl, rfl, SqL.of ha3, atI_at (j := 2 * i + 1) (by omega) (get_int hd2), _, rfl, pl, _, rfl, .inl (SqL.of hp1), _, _, rfl, rfl, pos, pl, _, _, vS y, rfl, rfl, SqL.of hp1, hy1, ?_⟩
      have skip : ∃ (rows : List (Wd × Wd)) (x4 x5 x6 : Option V), ([some (vS u), some (V.ref a), some (V.ref pl), some (V.ref pr), some (V.int (i : Int)), some (vS x), some (vS y)] : List (Option V)) = [some (vS u), some (V.ref a), some (V.ref pl), some (V.ref pr), x4, x5, x6] ∧ Same H H1 ∧ LstAt H1 pl (Tab.mk u rows).pieces ∧ RowsAt H1 pr rows ∧ TabOk ⟨u, rows⟩ := ⟨rows, _, _, _, rfl, s3, hp1, hr1, ok⟩
      have szxy : (S x).length + (S y).length ≤ sizeLine := small (by rw [len_S, len_S]; omega)
      have szc : (S x ++ S y).length ≤ sizeLine := by rw [S_cat]; exact small (by rw [len_S, List.length_append]; omega)
      obtain ⟨qs, hq1, hq2⟩ := id hr1
      have lqs : qs.length = rows.length := Paired.length hq2
      refine ⟨_, rfl, _, rfl, _, _, rfl, rfl, szxy, _, rfl, szc, _, _, rfl, rfl, _, rfl, ?_⟩
      refine ite2 (fun h1 => ?_) (fun h1 => skip)
      refine ⟨_, rfl, _, rfl, _, _, rfl, rfl, szxy, _, rfl, pl, _, rfl, .inl (SqL.of hp1), rfl, flat_row _, _, rfl, ?_⟩
      refine ite2 (fun h2 => ?_) (fun h2 => skip)
      refine ⟨_, rfl, pr, _, rfl, .inl (SqL.of hq1), _, _, rfl, rfl, _, rfl, ?_⟩
      refine ite2 (fun h3 => ?_) (fun h3 => skip)
      rw [S_cat] at h1 h2
      have h1' : (x ++ y).length ≤ 16 := by
        have := of_decide_eq_true h1
        rw [len_S] at this; omega
      have h2' : x ++ y ∉ (Tab.mk u rows).pieces := by
        have h2 : (!inV (vS (x ++ y)) ((Tab.mk u rows).pieces.map vS)) = true := h2
        rw [inV_row] at h2
        simpa using h2
      have h3' : rows.length < 24 := by
        have := of_decide_eq_true h3
        rw [List.length_map, lqs] at this; omega
      have prn : ∀ z, H1 z = none → pr ≠ z := fun z hz => ne_of_none hq1 hz
      refine ⟨_, rfl, .inl ⟨rfl, _, SqL.of hq1⟩, _, rfl, _, rfl, by show 2 ≤ sizeLine; decide, fun z hz => ⟨pr, _, _, rfl, rfl, (by rw [upd_ne (prn z hz)]; exact hq1), by rw [List.length_map]; exact smallLt (by omega), ?_⟩⟩
      have plz : pl ≠ z := ne_of_none hp1 hz
      have hp2 : upd (upd H1 z (.tup [vS x, vS y])) pr (.lst (qs.map V.ref ++ [V.ref z])) pl = some (.lst ((Tab.mk u rows).pieces.map vS)) := by
        rw [upd_ne plr, upd_ne plz]; exact hp1
      refine ⟨_, rfl, .inl ⟨rfl, _, SqL.of hp2⟩, _, rfl, _, rfl, _, _, rfl, rfl, szxy, pl, _, _, rfl, rfl, hp2, by rw [List.length_map]; exact smallLt (by omega), ?_⟩
      rw [S_cat]
      refine ⟨rows ++ [(x, y)], _, _, _, rfl, ((s3.trans (same_new hz)).mut npr).mut hpl, ?_, ⟨qs ++ [z], ?_, ?_⟩, ok_snoc ok hx hy h1' h2' h3'⟩
      · unfold LstAt
        rw [upd_same, pieces_snoc, List.map_append]; rfl
      · rw [upd_ne plr.symm, upd_same, List.map_append]; rfl
      · refine Paired.snoc (Paired.mapP hq2 fun b r hb => ?_) ?_
        · rw [upd_ne (ne_of hb hp1 (by intro z; cases z)), upd_ne (ne_of hb hq1 (by intro z; cases z)), upd_ne (ne_of_none hb hz)]
          exact hb
        · rw [upd_ne plz.symm, upd_ne (prn z hz).symm, upd_same]
    · rintro σ' H1 ⟨rows, x4, x5, x6, rfl, s3, hp1, hr1, ok⟩
      exact ⟨_, rfl, q rows pr H1 ⟨npr, s3⟩ hr1 ok⟩
end
end JR
namespace JR
open PySem PySem.Spec PyProof.Rows L2 SX
section
variable {P : Program} {w : World} {K : PySem.W.Frag} {mg : Str → Option Value} {base : Heap} {CT CF : Addr}
theorem sc_law_table : FnScope ["_law_cell", "_law_salt", "_law_most", "_law_head", "_law_many", "_law_signs_here", "_law_rows_here"] ["_law_cell", "_law_salt", "_law_most"] (defScope (top 48)) := ⟨rfl, rfl, rfl, by decide +kernel, rfl, by decide +kernel, by decide +kernel⟩
theorem ok_law_table (T : Txt K mg CT CF) (h0 : Here K mg "_law_table" (top 48)) (d_law_numbers : DefC P w K mg base 1 "_law_numbers" (spNumbers)) (d_law_rows : DefC P w K mg base 1 "_law_rows" (spLRows)) (d_law_signs : DefC P w K mg base 1 "_law_signs" (spLSigns)) : DefC P w K mg base 2 "_law_table" (spLTable) := by
  refine def_of h0 sc_law_table (fun _ _ _ _ _ _ us hl => match us, hl with | [_, _, _], _ => rfl) (fun vs H Q E h => ?_) (fun f cdv A outer s H vs Q E hr h => ?_)
  · (first | (obtain ⟨_, rfl, _⟩ := h; rfl) | (obtain ⟨_, _, rfl, _⟩ := h; rfl) | (obtain ⟨_, _, _, rfl, _⟩ := h; rfl) | (obtain ⟨_, _, _, _, rfl, _⟩ := h; rfl) | (obtain ⟨_, _, _, _, _, rfl, _⟩ := h; rfl) | (obtain ⟨_, _, _, _, _, _, rfl, _⟩ := h; rfl) | (obtain ⟨_, _, _, _, _, _, _, rfl, _⟩ := h; rfl) | (obtain ⟨_, _, _, _, _, _, _, _, rfl, _⟩ := h; rfl))
  · have hu := hu_of hr
    obtain ⟨cell, rfl, q⟩ := h
    refine ⟨_, (pss_cons (ps_set (i := 3) sc_law_table.nd rfl (Or.inl rfl) (pcl d_law_numbers hr (by decide) (by rfl) (pa_cons (pv 0) (pa_cons (pv 1) (pa_cons (pe_op op_cat (pe_op op_cat (pe_lst (pa_cons pe_int (pa_cons pe_int (pa_cons pe_int (pa_cons pe_int (pa_cons pe_int (pa_cons (pe_op op_add (pv 2) pe_int) pa_nil))))))) (pe_op op_rep (pe_lst (pa_cons pe_int pa_nil)) pe_int)) (pe_op op_rep (pe_lst (pa_cons pe_int pa_nil)) (pe_op op_mul pe_int (pv 2)))) pa_nil)))))
      (pss_cons (ps_set (i := 4) sc_law_table.nd rfl (Or.inl rfl) (pe_op op_add pe_int (pe_ix ix_list (pe_lst (pa_cons (pe_ix ix_list (pv 3) pe_int (fun _ _ => rfl)) (pa_cons (pe_ix ix_list (pv 3) pe_int (fun _ _ => rfl)) (pa_cons (pe_ix ix_list (pv 3) pe_int (fun _ _ => rfl)) (pa_cons (pe_ix ix_list (pv 3) pe_int (fun _ _ => rfl)) pa_nil))))) (pe_ix ix_list (pv 3) pe_int (fun _ _ => rfl)) (fun _ _ => rfl))))
      (pss_cons (ps_set (i := 5) sc_law_table.nd rfl (Or.inl rfl) (pcl d_law_signs hr (by decide) (by rfl) (pa_cons (pe_slice sl_list (pv 3) (po_some pe_int) (po_some (pe_op op_add pe_int (pv 4)))) pa_nil)))
      (pss_cons (ps_set (i := 6) sc_law_table.nd rfl (Or.inl rfl) (pcl d_law_rows hr (by decide) (by rfl) (pa_cons (pv 5) (pa_cons (pe_slice sl_list (pv 3) (po_some pe_int) po_none) pa_nil))))
      (pss_cons (ps_if (pt_cmpR op_eq (pe_ix ix_list (pv 3) pe_int (fun _ _ => rfl)) pe_int (nomark _)) (pss_one (ps_set (i := 6) sc_law_table.nd rfl (Or.inl rfl) (pe_slice sl_list (pv 6) po_none (po_some (pe_ix ix_list (pv 3) pe_int (fun _ _ => rfl)))))) pss_nil)
      (pss_one (ps_ret (pe_tup (pa_cons (pv 5) (pa_cons (pv 6) pa_nil)))))))))), ?_⟩
    refine ⟨_, rfl, _, rfl, ?_⟩
    refine ⟨_, rfl, _, _, rfl, rfl, by show 6 ≤ sizeLine; decide, fun a1 h1 => ?_⟩
    have s1 := same_new (o := .lst [V.int 4, V.int 12, V.int 3, V.int 4, V.int 4, V.int (24 + 1)]) h1
    refine ⟨by show 1 ≤ sizeLine; decide, fun a2 h2 => ⟨a2, _, _, rfl, rfl, upd_same, by decide, by decide, by show 1 * 12 ≤ sizeLine; decide, fun a3 h3 => ?_⟩⟩
    have s2 := same_new (o := .lst [V.int 94]) h2
    have s3 := same_new (o := .lst (List.replicate (Int.toNat 12) [V.int 94]).flatten) h3
    refine ⟨a1, a3, _, _, rfl, rfl, (s2.trans s3) _ _ upd_same, upd_same, by show 6 + 12 ≤ sizeLine; decide, fun a4 h4 => ?_⟩
    have s4 := same_new (o := .lst ([V.int 4, V.int 12, V.int 3, V.int 4, V.int 4, V.int (24 + 1)] ++ (List.replicate (Int.toNat 12) [V.int 94]).flatten)) h4
    refine ⟨by show 1 ≤ sizeLine; decide, fun a5 h5 => ⟨_, rfl, _, _, rfl, rfl, .inl ⟨by decide, by decide⟩, a5, _, _, rfl, rfl, upd_same, by decide, by decide, by show 1 * 48 ≤ sizeLine; decide, fun a6 h6 => ?_⟩⟩
    have s5 := same_new (o := .lst [V.int 36]) h5
    have s6 := same_new (o := .lst (List.replicate (Int.toNat (2 * 24)) [V.int 36]).flatten) h6
    refine ⟨a4, a6, _, _, rfl, rfl, (s5.trans s6) _ _ upd_same, upd_same, by show 18 + 48 ≤ sizeLine; decide, fun a7 h7 => ?_⟩
    have s7 := s1.trans (s2.trans (s3.trans (s4.trans (s5.trans (s6.trans (same_new (o := .lst (([V.int 4, V.int 12, V.int 3, V.int 4, V.int 4, V.int (24 + 1)] ++ (List.replicate (Int.toNat 12) [V.int 94]).flatten) ++ (List.replicate (Int.toNat (2 * 24)) [V.int 36]).flatten)) h7))))))
    refine ⟨cell, 9700, a7, szs, rfl, by decide, by decide, ?_, by rw [szs_len]; decide, szs_ok, fun ds hd H1 n1 hp hds => ?_⟩
    · unfold IntAt; rw [upd_same]; rfl
    have s8 := s7.trans n1.2
    clear s1 s2 s3 s4 s5 s6 s7
    have len66 : ds.length = 66 := by rw [hp.length, szs_len]
    obtain ⟨d0, g0, l0⟩ := digit hp (j := 0) (s := 4) rfl
    obtain ⟨d1, g1, l1⟩ := digit hp (j := 1) (s := 12) rfl
    obtain ⟨d2, g2, l2⟩ := digit hp (j := 2) (s := 3) rfl
    obtain ⟨d3, g3, l3⟩ := digit hp (j := 3) (s := 4) rfl
    obtain ⟨d4, g4, l4⟩ := digit hp (j := 4) (s := 4) rfl
    obtain ⟨d5, g5, l5⟩ := digit hp (j := 5) (s := 25) rfl
    have hq := SqL.of (K := K) hds
    obtain ⟨m, hm, hm2⟩ : ∃ m : Nat, m ≤ 11 ∧ ([V.int (d2 : Int), V.int (d2 : Int), V.int (d3 : Int), V.int (d1 : Int)] : List V)[d0]? = some (V.int (m : Int)) := by
      match d0, l0 with
      | 0, _ => exact ⟨d2, by omega, rfl⟩
      | 1, _ => exact ⟨d2, by omega, rfl⟩
      | 2, _ => exact ⟨d3, by omega, rfl⟩
      | 3, _ => exact ⟨d1, by omega, rfl⟩
    refine ⟨_, rfl, hd, _, _, V.int (d2 : Int), rfl, rfl, hq, atI_nat (j := 2) (get_int g2), _, rfl, hd, _, _, V.int (d2 : Int), rfl, rfl, hq, atI_nat (j := 2) (get_int g2), _, rfl, hd, _, _, V.int (d3 : Int), rfl, rfl, hq, atI_nat (j := 3) (get_int g3), _, rfl, hd, _, _, V.int (d1 : Int), rfl, rfl, hq, atI_nat (j := 1) (get_int g1), by show 4 ≤ sizeLine; decide, fun b1 i1 => ?_⟩
    have t1 := same_new (o := .lst [V.int (d2 : Int), V.int (d2 : Int), V.int (d3 : Int), V.int (d1 : Int)]) i1
    refine ⟨_, rfl, hd, _, _, V.int (d0 : Int), rfl, rfl, SqL.of (t1 _ _ hds), atI_nat (j := 0) (get_int g0), b1, _, _, V.int (m : Int), rfl, rfl, SqL.of upd_same, atI_nat hm2, _, _, rfl, rfl, ?_⟩
    have hds2 := t1 _ _ hds
    have s9 := s8.trans t1
    refine ⟨_, rfl, _, rfl, _, rfl, _, _, rfl, rfl, _, rfl, hd, _, rfl, SqL.of hds2, fun b2 i2 => ?_⟩
    rw [show (6 : Int) + (1 + (m : Int)) = ((7 + m : Nat) : Int) by omega, show cutV (ds.map fun n : Nat => V.int (n : Int)) (some (6 : Int)) (some ((7 + m : Nat) : Int)) = (((ds.drop 6).take (1 + m)).map fun n : Nat => V.int (n : Int)) by
      rw [show (some (6 : Int)) = some ((6 : Nat) : Int) from rfl, cutV_mid, show 7 + m - 6 = 1 + m by omega, List.map_take, List.map_drop]]
    have t2 := same_new (o := .lst (((ds.drop 6).take (1 + m)).map fun n : Nat => V.int (n : Int))) i2
    have ll : ((ds.drop 6).take (1 + m)).length = 1 + m := by rw [List.length_take, List.length_drop]; omega
    refine ⟨b2, _, rfl, upd_same, by omega, digits_sign hp (by omega), fun u H2 t3 u1 u2 u3 => ?_⟩
    have hs : SignsOk u := ⟨u1, u2, by omega, by omega⟩
    have s10 := s9.trans (t2.trans t3)
    have hds3 := (t2.trans t3) _ _ hds2
    refine ⟨_, rfl, _, rfl, _, rfl, hd, _, rfl, SqL.of hds3, fun b3 i3 => ?_⟩
    rw [show cutV (ds.map fun n : Nat => V.int (n : Int)) (some (18 : Int)) none = ((ds.drop 18).map fun n : Nat => V.int (n : Int)) by
      rw [show (some (18 : Int)) = some ((18 : Nat) : Int) from rfl, cutV_from, List.map_drop]]
    have t4 := same_new (o := .lst ((ds.drop 18).map fun n : Nat => V.int (n : Int))) i3
    refine ⟨u, b3, _, rfl, hs, upd_same, by rw [List.length_drop]; omega, fun rows pr H3 n3 hr3 ok => ?_⟩
    have t5 := t4.trans n3.2
    have s11 := s10.trans t5
    have hds4 := t5 _ _ hds3
    refine ⟨_, rfl, hd, _, _, V.int (d4 : Int), rfl, rfl, SqL.of hds4, atI_nat (j := 4) (get_int g4), rfl, _, rfl, ?_⟩
    refine ite2 (fun hc => ?_) (fun hc => ?_)
    · obtain ⟨qs, hq1, hq2⟩ := hr3
      refine ⟨_, rfl, _, rfl, hd, _, _, V.int (d5 : Int), rfl, rfl, SqL.of hds4, atI_nat (j := 5) (get_int g5), _, rfl, pr, _, rfl, SqL.of hq1, fun b4 i4 => ?_⟩
      rw [cutV_to]
      have t6 := same_new (o := .lst ((qs.map V.ref).take d5)) i4
      refine ⟨_, rfl, _, rfl, by show 2 ≤ sizeLine; decide, fun z hz => ?_⟩
      have t7 := t6.trans (same_new (o := .tup [vS u, .ref b4]) hz)
      refine q ⟨u, rows.take d5⟩ z b4 _ (s11.trans t7) (ok_take ok d5) upd_same ⟨qs.take d5, ?_, ?_⟩
      · rw [List.map_take]; exact (same_new hz) _ _ upd_same
      · exact Paired.mapP (RowsAt.take hq2 d5) fun _ _ e => t7 _ _ e
    · refine ⟨_, rfl, _, rfl, by show 2 ≤ sizeLine; decide, fun z hz => ?_⟩
      have t7 := same_new (o := .tup [vS u, .ref pr]) hz
      exact q ⟨u, rows⟩ z pr _ (s11.trans t7) ok upd_same (hr3.same t7)
end
end JR
namespace JR
open PySem PySem.Spec PyProof.Rows L2 SX
section
variable {P : Program} {w : World} {K : PySem.W.Frag} {mg : Str → Option Value} {base : Heap} {CT CF : Addr}
theorem sc_law_cut : FnScope ["_law_rows_here", "_law_text", "_law_row", "_law_left", "_law_right", "_law_found", "_law_piece"] ["_law_rows_here", "_law_text"] (defScope (top 49)) := ⟨rfl, rfl, rfl, by decide +kernel, rfl, by decide +kernel, by decide +kernel⟩
theorem ok_law_cut (T : Txt K mg CT CF) (h0 : Here K mg "_law_cut" (top 49))  : DefC P w K mg base 1 "_law_cut" (spCut) := by
  refine def_of h0 sc_law_cut (fun _ _ _ _ _ _ us hl => match us, hl with | [_, _], _ => rfl) (fun vs H Q E h => ?_) (fun f cdv A outer s H vs Q E hr h => ?_)
  · (first | (obtain ⟨_, rfl, _⟩ := h; rfl) | (obtain ⟨_, _, rfl, _⟩ := h; rfl) | (obtain ⟨_, _, _, rfl, _⟩ := h; rfl) | (obtain ⟨_, _, _, _, rfl, _⟩ := h; rfl) | (obtain ⟨_, _, _, _, _, rfl, _⟩ := h; rfl) | (obtain ⟨_, _, _, _, _, _, rfl, _⟩ := h; rfl) | (obtain ⟨_, _, _, _, _, _, _, rfl, _⟩ := h; rfl) | (obtain ⟨_, _, _, _, _, _, _, _, rfl, _⟩ := h; rfl))
  · have hu := hu_of hr
    obtain ⟨a, u, rows, rfl, hr, hP, h16, ul, lu, q⟩ := h
    obtain ⟨qs, hq1, hq2⟩ := hr
    have lqs : qs.length = rows.length := Paired.length hq2
    refine ⟨_, (pss_cons (ps_set (i := 2) sc_law_cut.nd rfl (Or.inl rfl) (pe_callTy (call_listS rfl) (by rfl) T.list boot_listT (pa_cons (pv 1) pa_nil)))
      (pss_cons (ps_for PassesOwn.never rfl (pi_list (pv 0)) (pg_tup rfl (pgs_cons (pg_name (i := 3) sc_law_cut.nd rfl (Or.inl rfl)) (pgs_cons (pg_name (i := 4) sc_law_cut.nd rfl (Or.inl rfl)) pgs_nil))) (pss_cons (ps_set (i := 5) sc_law_cut.nd rfl (Or.inl rfl) (pe_lst pa_nil))
      (pss_cons (ps_for PassesOwn.never rfl (pi_list (pv 2)) (pg_name (i := 6) sc_law_cut.nd rfl (Or.inl rfl)) (pss_one (ps_if (PW.pt (pw_and (pt_cmpR op_eq (pv 6) (pv 4) (nomark _)) (pw_and (pt_cmpR (op_neD hr.units) (pv 5) (pe_lst pa_nil) (nomark _)) (pw_and1 (pt_cmpR op_eq (pe_ix ix_list (pv 5) (pe_un un_neg pe_int) (fun _ _ => rfl)) (pv 3) (nomark _)))))) (pss_one (ps_asg (pe_op op_add_str (pv 3) (pv 4)) (pg_sub (pv 5) (pe_un un_neg pe_int) set_list))) (pss_one (ps_expr (pe_bm PySem.F.plainAttrs_list PySem.F.slot_list_append PySem.F.type_list_append mt_append (pv 5) (pa_cons (pv 6) pa_nil)))))))
      (pss_one (ps_set (i := 2) sc_law_cut.nd rfl (Or.inl rfl) (pv 5))))))
      (pss_one (ps_ret (pv 2))))), ?_⟩
    refine ⟨_, rfl, u, rfl, small (by omega), fun p0 hp0 => ?_⟩
    have s0 := same_new (o := .lst ((sg u).map vS)) hp0
    refine ⟨_, rfl, a, rfl, ⟨_, SqL.of (s0 _ _ hq1)⟩, for_list (xs := qs.map V.ref) (fun i σ' H' => (∃ x3 x4 x5 x6 pr, σ' = [some (V.ref a), some (vS u), some (V.ref pr), x3, x4, x5, x6] ∧ LstAt H' pr (cutF (rows.take i) (sg u)) ∧ H pr = none) ∧ Same H H') ⟨⟨_, _, _, _, p0, rfl, upd_same, hp0⟩, s0⟩ (fun i σ' H' _ p => SqL.of (p.2 _ _ hq1)) ?_ ?_⟩
    · rintro i x σ' H1 hx ⟨⟨x3, x4, x5, x6, pr, rfl, hpr, npr⟩, s1⟩
      rw [List.getElem?_map] at hx
      obtain ⟨qa, hqa, rfl⟩ : ∃ qa, qs[i]? = some qa ∧ x = V.ref qa := by
        cases e : qs[i]? with
        | none => rw [e] at hx; cases hx
        | some qa => rw [e] at hx; exact ⟨qa, rfl, (Option.some.inj hx).symm⟩
      obtain ⟨r, hr0, hqt⟩ := pair_get' hq2 hqa
      have hrm : r ∈ rows := List.mem_of_getElem? hr0
      have lr := h16 r hrm
      unfold jn at lr
      rw [List.length_append] at lr
      have hlen := len_cutF (rows.take i) (sg u)
      have hfl := flat_cutF (rows.take i) (sg u)
      rw [flat_sg] at hfl
      rw [len_sg] at hlen
      generalize hrow : cutF (rows.take i) (sg u) = row at hpr hlen hfl
      refine ⟨qa, _, rfl, SqT.of (s1 _ _ hqt), rfl, _, _, rfl, _, _, rfl, rfl, ?_⟩
      refine ⟨by show 0 ≤ sizeLine; decide, fun pf hpf => ?_⟩
      have npf := s1.free hpf
      have rf : pr ≠ pf := ne_of_none hpr hpf
      refine ⟨_, rfl, pr, rfl, ⟨_, SqL.of (by rw [upd_ne rf]; exact hpr)⟩, for_list (xs := row.map vS) (fun k σ' H' => (∃ x6, σ' = [some (V.ref a), some (vS u), some (V.ref pr), some (vS r.1), some (vS r.2), some (V.ref pf), x6]) ∧ Same H1 H' ∧ ∃ fd, LstAt H' pf fd ∧ fd = (row.take k).foldl (stp r.1 r.2) [] ∧ fd.length ≤ k ∧ ∀ c ∈ fd.flatten, c ∈ u) ⟨⟨_, rfl⟩, same_new hpf, [], upd_same, rfl, Nat.le_refl _, fun c hc => by cases hc⟩ (fun i σ' H' _ p => SqL.of (p.2.1 _ _ hpr)) ?_ ?_⟩
      · rintro k x σ' H2 hx2 ⟨⟨x6, rfl⟩, s2, fd, hfd, efd, lfd, mfd⟩
        obtain ⟨p, hp, rfl⟩ := get_vS hx2
        have hk : k < row.length := (List.getElem?_eq_some_iff.mp hp).1
        have hpc : ∀ c ∈ p, c ∈ u := fun c hc => by rw [← hfl]; exact List.mem_flatten.mpr ⟨p, List.mem_of_getElem? hp, hc⟩
        have fin : ∀ H3, Same H1 H3 → LstAt H3 pf (stp r.1 r.2 fd p) → Same H1 H3 ∧ ∃ fd, LstAt H3 pf fd ∧ fd = (row.take (k + 1)).foldl (stp r.1 r.2) [] ∧ fd.length ≤ k + 1 ∧ ∀ c ∈ fd.flatten, c ∈ u := fun H3 s3 h3 =>
          ⟨s3, _, h3, by rw [fold_snoc hp, ← efd], by have := stp_len r.1 r.2 fd p; omega, fun c hc => by
            rw [stp_flat] at hc
            exact (List.mem_append.mp hc).elim (mfd c) (hpc c)⟩
        have hsz : (fd.map vS).length < sizeLine := by rw [List.length_map]; exact smallLt (by omega)
        refine ⟨_, rfl, _, rfl, rfl, _, rfl, ?_⟩
        refine ite2 (fun h1 => ?_) (fun h1 => ?_)
        · have h1' : p = r.2 := vS_inj (of_decide_eq_true h1)
          refine ⟨_, rfl, by show 0 ≤ sizeLine; decide, fun z hz => ?_⟩
          have hfz := (same_new (o := .lst []) hz) _ _ hfd
          refine ⟨rowD fd, rowD [], dp_row hfz, dp_row (row := []) upd_same, shaped_row (low_flat lu mfd), shaped_row (fun _ hp => by cases hp), _, rfl, ?_⟩
          rw [eqv_row]
          have s3 : Same H1 (upd H2 z (.lst [])) := s2.trans (same_new hz)
          refine ite2 (fun h2 => ?_) (fun h2 => ?_)
          · have hne : fd ≠ [] := by simpa using h2
            obtain ⟨fd', l, e⟩ : ∃ fd' l, fd = fd' ++ [l] := ⟨_, _, (List.dropLast_concat_getLast hne).symm⟩
            subst e
            rw [List.map_append] at hfz
            refine ⟨_, rfl, _, rfl, pf, _, _, vS l, rfl, rfl, SqL.of hfz, atI_last _ _, _, rfl, rfl, _, rfl, ?_⟩
            refine ite2 (fun h3 => ?_) (fun h3 => ?_)
            · have h3' : l = r.1 := vS_inj (of_decide_eq_true h3)
              subst h3' h1'
              refine ⟨_, rfl, _, rfl, _, _, rfl, rfl, small (by rw [len_S, len_S]; omega), _, rfl, _, rfl, pf, _, _, fd'.length, rfl, rfl, hfz, by rw [List.length_append, List.length_map]; exact ixN_last _, ?_⟩
              refine ⟨⟨_, rfl⟩, fin _ (s3.mut hpf) ?_⟩
              rw [stp_join, S_cat]
              unfold LstAt
              rw [upd_same, List.map_append]
              congr 2
              rw [List.set_append_right _ _ (by rw [List.length_map]; exact Nat.le_refl _), List.length_map, Nat.sub_self]; rfl
            · refine ⟨_, rfl, .inl ⟨rfl, _, SqL.of hfz⟩, _, rfl, pf, _, _, rfl, rfl, hfz, by rw [← List.map_append]; exact hsz, ?_⟩
              refine ⟨⟨_, rfl⟩, fin _ (s3.mut hpf) ?_⟩
              rw [stp_add fun w => h3 (decide_eq_true (by have := w.2; rw [List.getLast?_concat] at this; rw [Option.some.inj this]))]
              unfold LstAt
              rw [upd_same, List.map_append, List.map_append]; rfl
          · refine ⟨_, rfl, .inl ⟨rfl, _, SqL.of hfz⟩, _, rfl, pf, _, _, rfl, rfl, hfz, hsz, ?_⟩
            refine ⟨⟨_, rfl⟩, fin _ (s3.mut hpf) ?_⟩
            have he : fd = [] := by simpa using h2
            rw [stp_add fun w => by have := w.2; rw [he] at this; cases this]
            unfold LstAt
            rw [upd_same, List.map_append]; rfl
        · refine ⟨_, rfl, .inl ⟨rfl, _, SqL.of hfd⟩, _, rfl, pf, _, _, rfl, rfl, hfd, hsz, ?_⟩
          refine ⟨⟨_, rfl⟩, fin _ (s2.mut hpf) ?_⟩
          rw [stp_add fun w => h1 (decide_eq_true (congrArg vS w.1))]
          unfold LstAt
          rw [upd_same, List.map_append]; rfl
      · rintro σ' H2 ⟨⟨x6, rfl⟩, s2, fd, hfd, efd, lfd, mfd⟩
        rw [List.length_map, List.take_length, fold_pass (hP r hrm).2] at efd
        refine ⟨_, rfl, ⟨_, _, _, _, pf, rfl, ?_, npf⟩, s1.trans s2⟩
        rw [cutF_succ hr0, hrow, ← efd]
        exact hfd
    · rintro σ' H1 ⟨⟨x3, x4, x5, x6, pr, rfl, hpr, npr⟩, s1⟩
      rw [List.length_map, lqs, List.take_length] at hpr
      exact ⟨_, rfl, q pr H1 ⟨npr, s1⟩ hpr⟩
theorem sc_law_beside : FnScope ["_law_rows_here", "_law_alone", "_law_known", "_law_last", "_law_piece"] ["_law_rows_here", "_law_alone", "_law_known", "_law_last"] (defScope (top 50)) := ⟨rfl, rfl, rfl, by decide +kernel, rfl, by decide +kernel, by decide +kernel⟩
theorem ok_law_beside (T : Txt K mg CT CF) (h0 : Here K mg "_law_beside" (top 50)) (d_law_cut : DefC P w K mg base 1 "_law_cut" (spCut)) : DefC P w K mg base 2 "_law_beside" (spBeside) := by
  refine def_of h0 sc_law_beside (fun _ _ _ _ _ _ us hl => match us, hl with | [_, _, _, _], _ => rfl) (fun vs H Q E h => ?_) (fun f cdv A outer s H vs Q E hr h => ?_)
  · (first | (obtain ⟨_, rfl, _⟩ := h; rfl) | (obtain ⟨_, _, rfl, _⟩ := h; rfl) | (obtain ⟨_, _, _, rfl, _⟩ := h; rfl) | (obtain ⟨_, _, _, _, rfl, _⟩ := h; rfl) | (obtain ⟨_, _, _, _, _, rfl, _⟩ := h; rfl) | (obtain ⟨_, _, _, _, _, _, rfl, _⟩ := h; rfl) | (obtain ⟨_, _, _, _, _, _, _, rfl, _⟩ := h; rfl) | (obtain ⟨_, _, _, _, _, _, _, _, rfl, _⟩ := h; rfl))
  · have hu := hu_of hr
    obtain ⟨ra, al, kn, rw0, T0, p, rfl, ok, hra, hal, hkn, ⟨xsr, hrw⟩, hp, hpa, q⟩ := h
    obtain ⟨kvs, k1, k2, k3⟩ := hkn
    have k36 := Known.len k2 k3
    have p36 := len36 ok
    have lp := piece_len ok.ok p hp
    refine ⟨_, (pss_cons (ps_if (pt_cmp (pc_dnotin hu (pv 3) (pv 2))) (pss_one (ps_dput hu (pv 2) (pv 3) (pe_lc (own := [("_law_piece", 4)]) (by rfl) sc_law_beside.nd (pi_list (pv 1)) (blkOk_by (own := [("_law_piece", 4)]) (N := ["_law_rows_here", "_law_alone", "_law_known", "_law_last", "_law_piece"]) (sc := defScope (top 50)) (by decide +kernel)) (fun _ _ _ _ _ => pg_name (i := 4) sc_law_beside.nd rfl (Or.inl rfl)) (fun _ _ _ _ _ => pts_one (pt_cmpR (op_eqDK (K := K) hr.units) (pcl d_law_cut hr (by decide) (by rfl) (pa_cons (pv 0) (pa_cons (pe_op op_add_str (pv 3) (pv 4)) pa_nil))) (pe_lst (pa_cons (pv 3) (pa_cons (pv 4) pa_nil))) (nomark _))) (fun _ _ _ _ _ => (pv 4))) rfl)) pss_nil)
      (pss_one (ps_ret (pe_dget hu (pv 2) (pv 3) (fun _ _ => rfl))))), ?_⟩
    refine ⟨_, rfl, _, rfl, kn, _, rfl, DGet.k (k := Sum.inr (S p)) k1, _, rfl, ?_⟩
    cases hv : valV kvs (Sum.inr (S p) : Key) with
    | some v =>
      obtain ⟨a, rfl, ha, hr⟩ := Known.get k3 hv
      refine iteF ?_
      refine ⟨_, rfl, _, rfl, kn, _, rfl, ?_, q a H (But.refl _ _) ⟨kvs, k1, k2, k3⟩ ha hr⟩
      have := DGet.k (k := Sum.inr (S p)) k1
      rw [hv] at this
      exact this
    | none =>
      refine iteT ?_
      refine ⟨_, rfl, al, rfl, ⟨_, SqL.of hal⟩, fun D hD => ?_⟩
      have knD : kn ≠ D := ne_of_none k1 hD
      have rD : D ≠ rw0 := (ne_of_none hrw hD).symm
      refine lc_list (xs := (aloneL T0).map vS) (fun i H' => Same H H' ∧ LstAt H' D (((aloneL T0).take i).filter (fun q => fit T0 p q))) ⟨same_new hD, upd_same⟩ (fun i H' _ z => SqL.of (z.1 _ _ hal)) ?_ ?_
      · rintro i x H1 hx ⟨s1, hD1⟩
        obtain ⟨x, hx', rfl⟩ := get_vS hx
        obtain ⟨hxm, hxa⟩ := aloneL_mem (List.mem_of_getElem? hx')
        have lx := piece_len ok.ok x hxm
        refine ⟨rfl, ?_⟩
        refine ⟨_, rfl, _, rfl, _, rfl, _, _, rfl, rfl, small (by rw [len_S, len_S]; omega), ?_⟩
        rw [S_cat]
        refine ⟨ra, p ++ x, T0.rows, rfl, hra.same s1, posR ok.ok, rows16 ok, by rw [List.length_append]; omega, low_two ok hp hxm, fun pc H2 n2 hpc => ?_⟩
        refine ⟨_, rfl, _, rfl, by show 2 ≤ sizeLine; decide, fun z hz => ?_⟩
        have s3 := same_new (o := .lst [vS p, vS x]) hz
        refine ⟨rowD (Cut T0.rows (p ++ x)), rowD [p, x], dp_row (s3 _ _ hpc), dp_row (row := [p, x]) upd_same, shaped_row (low_cut (low_two ok hp hxm)), shaped_row (low_sub (low_pieces ok) fun y hy => ?_), _, rfl, ?_⟩
        · rcases List.mem_cons.mp hy with e | hy
          · rw [e]; exact hp
          · rw [show y = x by simpa using hy]; exact hxm
        rw [eqv_row]
        have s4 : Same H1 _ := n2.2.trans s3
        have hD2 : LstAt _ D _ := s4 _ _ hD1
        have e5 := filter_succ (f := fun q => fit T0 p q) hx'
        have fe : decide (Cut T0.rows (p ++ x) = [p, x]) = fit T0 p x := rfl
        rw [fe]
        cases hf : fit T0 p x with
        | true =>
          rw [hf, if_pos rfl] at e5
          refine iteT ⟨_, rfl, _, hD2, ?_, (s1.trans s4).mut hD, ?_⟩
          · rw [List.length_map]
            have := aloneL_len ok
            exact smallLt (Nat.lt_of_le_of_lt (List.length_filter_le _ _) (by rw [List.length_take]; omega))
          · unfold LstAt
            rw [upd_same, e5, List.map_append]; rfl
        | false =>
          rw [hf, if_neg Bool.false_ne_true, List.append_nil] at e5
          exact iteF ⟨s1.trans s4, by rw [e5]; exact hD2⟩
      · rintro H1 ⟨s1, hD1⟩
        rw [List.length_map, List.take_length, bes_alone ok] at hD1
        refine ⟨_, rfl, _, rfl, kn, _, rfl, DPut.k (k := Sum.inr (S p)) (s1 _ _ k1) (smallLt (by omega)), ?_⟩
        have kk := Known.put (s1 _ _ k1) k2 (fun kv hkv => by
          obtain ⟨p', a, a1, a2, a3, a4, a5⟩ := k3 kv hkv
          exact ⟨p', a, a1, a2, a3, s1 _ _ a4, a5⟩) hv hp hpa hD1 rD
        refine ⟨_, rfl, _, rfl, kn, _, rfl, ?_, q D _ ((s1.but kn).trans but_upd) kk ?_ rD⟩
        · have := DGet.k (k := Sum.inr (S p)) (upd_same (H := H1) (a := kn) (o := .dK (putK kvs (Sum.inr (S p)) (.ref D))))
          rw [valV_put, if_pos rfl] at this
          exact this
        · unfold LstAt; rw [upd_ne knD.symm]; exact hD1
end
end JR
namespace JR
open PySem PySem.Spec PyProof.Rows L2 SX
section
variable {P : Program} {w : World} {K : PySem.W.Frag} {mg : Str → Option Value} {base : Heap} {CT CF : Addr}
theorem sc_law_longer : FnScope ["_law_rows_here", "_law_alone", "_law_known", "_law_row", "_law_digits", "_law_size", "_law_digit", "_law_some", "_law_piece"] ["_law_rows_here", "_law_alone", "_law_known", "_law_row", "_law_digits"] (defScope (top 51)) := ⟨rfl, rfl, rfl, by decide +kernel, rfl, by decide +kernel, by decide +kernel⟩
theorem ok_law_longer (T : Txt K mg CT CF) (h0 : Here K mg "_law_longer" (top 51)) (d_law_beside : DefC P w K mg base 2 "_law_beside" (spBeside)) : DefC P w K mg base 3 "_law_longer" (spLLonger) := by
  refine def_of h0 sc_law_longer (fun _ _ _ _ _ _ us hl => match us, hl with | [_, _, _, _, _], _ => rfl) (fun vs H Q E h => ?_) (fun f cdv A outer s H vs Q E hr h => ?_)
  · (first | (obtain ⟨_, rfl, _⟩ := h; rfl) | (obtain ⟨_, _, rfl, _⟩ := h; rfl) | (obtain ⟨_, _, _, rfl, _⟩ := h; rfl) | (obtain ⟨_, _, _, _, rfl, _⟩ := h; rfl) | (obtain ⟨_, _, _, _, _, rfl, _⟩ := h; rfl) | (obtain ⟨_, _, _, _, _, _, rfl, _⟩ := h; rfl) | (obtain ⟨_, _, _, _, _, _, _, rfl, _⟩ := h; rfl) | (obtain ⟨_, _, _, _, _, _, _, _, rfl, _⟩ := h; rfl))
  · have hu := hu_of hr
    obtain ⟨ra, al, kn, rw0, da, T0, row, ds, rfl, ok, hra, hal, hkn, hrw, hM0, nra, nrr, hda, hd5, nrd, q⟩ := h
    obtain ⟨kvs, k1, k2, k3⟩ := id hkn
    have knr : kn ≠ rw0 := ne_of k1 hrw (by intro z; cases z)
    obtain ⟨d0, hd0⟩ : ∃ d, ds[0]? = some d := ⟨_, List.getElem?_eq_getElem (by omega)⟩
    refine ⟨_, (pss_cons (ps_set (i := 5) sc_law_longer.nd rfl (Or.inl rfl) (pe_callB call_len_str (by rfl) T.len PySem.boot_len (pa_cons (pe_join pe_str (pv 3)) pa_nil)))
      (pss_one (ps_for PassesOwn.never rfl (pi_list (pe_slice sl_list (pv 4) (po_some pe_int) (po_some (pe_op op_add pe_int (pe_ix ix_list (pv 4) pe_int (fun _ _ => rfl)))))) (pg_name (i := 6) sc_law_longer.nd rfl (Or.inl rfl)) (pss_cons (ps_set (i := 7) sc_law_longer.nd rfl (Or.inl rfl) (pv 1))
      (pss_cons (ps_if (pt_cmpR (op_neD hr.units) (pv 3) (pe_lst pa_nil) (nomark _)) (pss_one (ps_set (i := 7) sc_law_longer.nd rfl (Or.inl rfl) (pcl d_law_beside hr (by decide) (by rfl) (pa_cons (pv 0) (pa_cons (pv 1) (pa_cons (pv 2) (pa_cons (pe_ix ix_list (pv 3) (pe_un un_neg pe_int) (fun _ _ => rfl)) pa_nil))))))) pss_nil)
      (pss_one (ps_if (pt_cmpR (op_neD hr.units) (pv 7) (pe_lst pa_nil) (nomark _)) (pss_cons (ps_set (i := 8) sc_law_longer.nd rfl (Or.inl rfl) (pe_ix ix_list (pv 7) (pe_op op_mod (pv 6) (pe_callB call_len_seq (by rfl) T.len PySem.boot_len (pa_cons (pv 7) pa_nil))) (fun _ _ => rfl)))
      (pss_one (ps_if (pt_cmpR op_le (pe_op op_add (pv 5) (pe_callB call_len_str (by rfl) T.len PySem.boot_len (pa_cons (pv 8) pa_nil))) pe_int (nomark _)) (pss_cons (ps_set (i := 5) sc_law_longer.nd rfl (Or.inl rfl) (pe_op op_add (pv 5) (pe_callB call_len_str (by rfl) T.len PySem.boot_len (pa_cons (pv 8) pa_nil))))
      (pss_one (ps_expr (pe_bm PySem.F.plainAttrs_list PySem.F.slot_list_append PySem.F.type_list_append mt_append (pv 3) (pa_cons (pv 8) pa_nil))))) pss_nil))) pss_nil))))))), ?_⟩
    refine ⟨⟨_, rfl⟩, _, rfl, _, rw0, row.map S, rfl, rfl, .inl (by rw [map_S]; exact SqL.of hrw), join_sz row hM0.2.2, ?_⟩
    rw [join0]
    refine ⟨_, rfl, small (by rw [len_S]; have := hM0.2.2; omega), ?_⟩
    rw [len_S]
    refine ⟨_, rfl, _, rfl, _, rfl, da, _, _, V.int (d0 : Int), rfl, rfl, SqL.of hda, atI_nat (j := 0) (get_int hd0), _, _, rfl, rfl, _, rfl, da, _, rfl, SqL.of hda, fun sl hsl => ?_⟩
    rw [show (2 : Int) + (d0 : Int) = ((2 + d0 : Nat) : Int) by omega]
    rw [show cutV (ds.map fun n : Nat => V.int (n : Int)) (some (1 : Int)) (some ((2 + d0 : Nat) : Int)) = (((ds.drop 1).take (1 + d0)).map fun n : Nat => V.int (n : Int)) by
      rw [show (some (1 : Int)) = some ((1 : Nat) : Int) from rfl, cutV_mid, show 2 + d0 - 1 = 1 + d0 by omega, List.map_take, List.map_drop]]
    have hne : 0 < ((ds.drop 1).take (1 + d0)).length := by rw [List.length_take, List.length_drop]; omega
    generalize (ds.drop 1).take (1 + d0) = es at hne ⊢
    have s1 := same_new (o := .lst (es.map fun n : Nat => V.int (n : Int))) hsl
    have knsl : sl ≠ kn := (ne_of_none k1 hsl).symm
    have rsl : sl ≠ rw0 := (ne_of_none hrw hsl).symm
    have hrw1 := s1 _ _ hrw
    have hk1 := s1 _ _ k1
    have hsl1 : upd H sl (.lst (es.map fun n : Nat => V.int (n : Int))) sl = some (.lst (es.map fun n : Nat => V.int (n : Int))) := upd_same
    have hra1 := hra.same s1
    have hal1 := s1 _ _ hal
    have kal : al ≠ kn := ne_of hal k1 (by intro z; cases z)
    generalize upd H sl (.lst (es.map fun n : Nat => V.int (n : Int))) = H1 at s1 hrw1 hk1 hsl1 hra1 hal1 ⊢
    refine ⟨sl, rfl, ⟨_, SqL.of hsl1⟩, for_list (xs := es.map fun n : Nat => V.int (n : Int)) (fun i σ' H' => ∃ (row' : Rw) (n : Int) (x6 x7 x8 : Option V), σ' = [some (V.ref ra), some (V.ref al), some (V.ref kn), some (V.ref rw0), some (V.ref da), some (V.int n), x6, x7, x8] ∧ n = ((row'.flatten.length : Nat) : Int) ∧ Made T0 row' ∧ (0 < i → row' ≠ []) ∧ LstAt H' rw0 row' ∧ Known H' kn T0 rw0 ∧ ∀ b o, b ≠ kn → b ≠ rw0 → H1 b = some o → H' b = some o) ⟨row, _, _, _, _, rfl, rfl, hM0, fun z => absurd z (Nat.lt_irrefl _), hrw1, hkn.same s1, fun _ _ _ _ e => e⟩ (fun i σ' H' _ p => by obtain ⟨_, _, _, _, _, _, _, _, _, _, _, P⟩ := p; exact SqL.of (P _ _ knsl rsl hsl1)) ?_ ?_⟩
    · rintro i x σ' H2 hx ⟨row', n, x6, x7, x8, rfl, hn, hM, hrn, hrw2, hk2, P2⟩
      obtain ⟨d, hd, rfl⟩ : ∃ d, es[i]? = some d ∧ x = V.int (d : Int) := by
        rw [List.getElem?_map] at hx
        cases e : es[i]? with
        | none => rw [e] at hx; cases hx
        | some d => rw [e] at hx; exact ⟨d, rfl, (Option.some.inj hx).symm⟩
      have hlow : Low row' := low_sub (low_pieces ok) hM.2.1
      refine ⟨_, rfl, ?_⟩
      refine ⟨_, rfl, by show 0 ≤ sizeLine; decide, fun z hz => ?_⟩
      have t1 := same_new (o := .lst []) hz
      refine ⟨rowD row', rowD [], dp_row (t1 _ _ hrw2), dp_row (row := []) upd_same, shaped_row hlow, shaped_row (fun _ hp => by cases hp), _, rfl, ?_⟩
      rw [eqv_row]
      have Pz : ∀ b o, b ≠ kn → b ≠ rw0 → H1 b = some o → upd H2 z (.lst []) b = some o := fun b o n1 n2 e => t1 _ _ (P2 b o n1 n2 e)
      have hrwz : LstAt (upd H2 z (.lst [])) rw0 row' := t1 _ _ hrw2
      have hkz := hk2.same t1
      refine ite2 (fun h1 => ?_) (fun h1 => ?_)
      · have hne' : row' ≠ [] := by simpa using h1
        obtain ⟨row0, l, e⟩ : ∃ row0 l, row' = row0 ++ [l] := ⟨_, _, (List.dropLast_concat_getLast hne').symm⟩
        have hlm : l ∈ T0.pieces := hM.2.1 l (by rw [e]; simp)
        have hla : alone T0 l := good_mem (posR ok.ok) row' hM.1 l (by rw [e]; simp)
        have hrw3' := hrwz
        rw [e] at hrw3'
        unfold LstAt at hrw3'
        rw [List.map_append] at hrw3'
        refine ⟨_, rfl, _, rfl, _, rfl, _, rfl, _, rfl, rw0, _, _, vS l, rfl, rfl, SqL.of hrw3', atI_last _ _, ra, al, kn, rw0, T0, l, rfl, ok, hra1.two Pz hk1 hrw1 nrr.symm, Pz _ _ kal nra.symm hal1, hkz, ⟨_, hrwz⟩, hlm, hla, fun sa H3 b3 hk3 hsa nsa => ?_⟩
        have P3 : ∀ b o, b ≠ kn → b ≠ rw0 → H1 b = some o → H3 b = some o := fun b o n1 n2 e => b3 b o n1 (Pz b o n1 n2 e)
        have hrw3 : LstAt H3 rw0 row' := b3 _ _ knr.symm hrwz
        generalize hLe : bes T0 l = L at hsa
        have hL : ∀ x ∈ L, x ∈ T0.pieces ∧ alone T0 x ∧ ∀ l', row'.getLast? = some l' → fit T0 l' x = true := fun x hx => by
          rw [← hLe] at hx
          have hx := List.mem_filter.mp hx
          refine ⟨hx.1, (fit_alone ok.ok hx.2).2, fun l' hl' => ?_⟩
          rw [e, List.getLast?_concat] at hl'
          rw [← Option.some.inj hl']; exact hx.2
        have hLne : row' = [] → L ≠ [] := fun z => absurd z hne'
        refine ⟨_, rfl, by show 0 ≤ sizeLine; decide, fun z2 hz2 => ?_⟩
        have t2 := same_new (o := .lst []) hz2
        have hsa2 := t2 _ _ hsa
        have hrw4 := t2 _ _ hrw3
        have hk4 := hk3.same t2
        have P4 : ∀ b o, b ≠ kn → b ≠ rw0 → H1 b = some o → upd H3 z2 (.lst []) b = some o := fun b o n1 n2 e => t2 _ _ (P3 b o n1 n2 e)
        have hLlow : Low L := low_sub (low_pieces ok) fun x hx => (hL x hx).1
        refine ⟨rowD L, rowD [], dp_row hsa2, dp_row (row := []) upd_same, shaped_row hLlow, shaped_row (fun _ hp => by cases hp), _, rfl, ?_⟩
        rw [eqv_row]
        refine ite2 (fun h2 => ?_) (fun h2 => ?_)
        · have hLn : L ≠ [] := by simpa using h2
          obtain ⟨x, hxL, hx1⟩ := row_mod d hLn
          obtain ⟨hxm, hxa, hxf⟩ := hL x hxL
          have lx := piece_len ok.ok x hxm
          have pos : (0 : Int) < (((L.map vS).length : Nat) : Int) := by
            rw [List.length_map]; have := List.length_pos_iff.mpr hLn; omega
          refine ⟨_, rfl, _, rfl, _, rfl, sa, _, rfl, .inl (SqL.of hsa2), _, _, rfl, rfl, pos, sa, _, _, vS x, rfl, rfl, SqL.of hsa2, hx1, ?_⟩
          refine ⟨_, rfl, _, rfl, _, rfl, small (by rw [len_S]; omega), _, _, rfl, rfl, _, _, rfl, rfl, _, rfl, ?_⟩
          rw [len_S]
          refine ite2 (fun h3 => ?_) (fun h3 => ?_)
          · have h3' : row'.flatten.length + x.length ≤ 294 := by have := of_decide_eq_true h3; omega
            have lr : row'.length ≤ 294 := made_len ok hM
            refine ⟨_, rfl, _, rfl, _, rfl, small (by rw [len_S]; omega), _, _, rfl, rfl, ?_⟩
            refine ⟨_, rfl, .inl ⟨rfl, _, SqL.of hrw4⟩, _, rfl, rw0, _, _, rfl, rfl, hrw4, by rw [List.length_map]; exact smallLt (by omega), ?_⟩
            rw [len_S]
            refine ⟨row' ++ [x], _, _, _, _, rfl, ?_, made_snoc hM hxm hxa hxf h3', fun _ => by simp, ?_, ?_, ?_⟩
            · rw [hn, List.flatten_append, List.length_append, show ([x] : Rw).flatten = x by simp]; omega
            · unfold LstAt; rw [upd_same, List.map_append]; rfl
            · exact hk4.to (fun o e => by rw [upd_ne knr]; exact e) fun b o n1 n2 e => by rw [upd_ne n2]; exact e
            · exact fun b o n1 n2 e => by rw [upd_ne n2]; exact P4 b o n1 n2 e
          · refine ⟨row', _, _, _, _, rfl, hn, hM, fun _ hr0 => ?_, hrw4, hk4, P4⟩
            subst hr0
            refine h3 (decide_eq_true ?_)
            rw [hn]
            show ((0 : Nat) : Int) + _ ≤ 294
            omega
        · have hLn : L = [] := by simpa using h2
          exact ⟨row', _, _, _, _, rfl, hn, hM, fun _ hr0 => hLne hr0 hLn, hrw4, hk4, P4⟩
      · have hnil : row' = [] := by simpa using h1
        generalize hsae : al = sa at *
        have hsa : LstAt (upd H2 z (.lst [])) sa (aloneL T0) := Pz _ _ kal nra.symm hal1
        generalize upd H2 z (.lst []) = H3 at *
        have P3 := Pz
        have hrw3 := hrwz
        have hk3 := hkz
        generalize hLe : aloneL T0 = L at hsa
        have hL : ∀ x ∈ L, x ∈ T0.pieces ∧ alone T0 x ∧ ∀ l', row'.getLast? = some l' → fit T0 l' x = true := fun x hx => by
          rw [← hLe] at hx
          obtain ⟨a1, a2⟩ := aloneL_mem hx
          exact ⟨a1, a2, fun l' hl' => by rw [hnil] at hl'; cases hl'⟩
        have hLne : row' = [] → L ≠ [] := fun _ => by rw [← hLe]; exact aloneL_ne ok
        refine ⟨_, rfl, by show 0 ≤ sizeLine; decide, fun z2 hz2 => ?_⟩
        have t2 := same_new (o := .lst []) hz2
        have hsa2 := t2 _ _ hsa
        have hrw4 := t2 _ _ hrw3
        have hk4 := hk3.same t2
        have P4 : ∀ b o, b ≠ kn → b ≠ rw0 → H1 b = some o → upd H3 z2 (.lst []) b = some o := fun b o n1 n2 e => t2 _ _ (P3 b o n1 n2 e)
        have hLlow : Low L := low_sub (low_pieces ok) fun x hx => (hL x hx).1
        refine ⟨rowD L, rowD [], dp_row hsa2, dp_row (row := []) upd_same, shaped_row hLlow, shaped_row (fun _ hp => by cases hp), _, rfl, ?_⟩
        rw [eqv_row]
        refine ite2 (fun h2 => ?_) (fun h2 => ?_)
        · have hLn : L ≠ [] := by simpa using h2
          obtain ⟨x, hxL, hx1⟩ := row_mod d hLn
          obtain ⟨hxm, hxa, hxf⟩ := hL x hxL
          have lx := piece_len ok.ok x hxm
          have pos : (0 : Int) < (((L.map vS).length : Nat) : Int) := by
            rw [List.length_map]; have := List.length_pos_iff.mpr hLn; omega
          refine ⟨_, rfl, _, rfl, _, rfl, sa, _, rfl, .inl (SqL.of hsa2), _, _, rfl, rfl, pos, sa, _, _, vS x, rfl, rfl, SqL.of hsa2, hx1, ?_⟩
          refine ⟨_, rfl, _, rfl, _, rfl, small (by rw [len_S]; omega), _, _, rfl, rfl, _, _, rfl, rfl, _, rfl, ?_⟩
          rw [len_S]
          refine ite2 (fun h3 => ?_) (fun h3 => ?_)
          · have h3' : row'.flatten.length + x.length ≤ 294 := by have := of_decide_eq_true h3; omega
            have lr : row'.length ≤ 294 := made_len ok hM
            refine ⟨_, rfl, _, rfl, _, rfl, small (by rw [len_S]; omega), _, _, rfl, rfl, ?_⟩
            refine ⟨_, rfl, .inl ⟨rfl, _, SqL.of hrw4⟩, _, rfl, rw0, _, _, rfl, rfl, hrw4, by rw [List.length_map]; exact smallLt (by omega), ?_⟩
            rw [len_S]
            refine ⟨row' ++ [x], _, _, _, _, rfl, ?_, made_snoc hM hxm hxa hxf h3', fun _ => by simp, ?_, ?_, ?_⟩
            · rw [hn, List.flatten_append, List.length_append, show ([x] : Rw).flatten = x by simp]; omega
            · unfold LstAt; rw [upd_same, List.map_append]; rfl
            · exact hk4.to (fun o e => by rw [upd_ne knr]; exact e) fun b o n1 n2 e => by rw [upd_ne n2]; exact e
            · exact fun b o n1 n2 e => by rw [upd_ne n2]; exact P4 b o n1 n2 e
          · refine ⟨row', _, _, _, _, rfl, hn, hM, fun _ hr0 => ?_, hrw4, hk4, P4⟩
            subst hr0
            refine h3 (decide_eq_true ?_)
            rw [hn]
            show ((0 : Nat) : Int) + _ ≤ 294
            omega
        · have hLn : L = [] := by simpa using h2
          exact ⟨row', _, _, _, _, rfl, hn, hM, fun _ hr0 => hLne hr0 hLn, hrw4, hk4, P4⟩
    · rintro σ' H2 ⟨row', n, x6, x7, x8, rfl, hn, hM, hrn, hrw2, hk2, P2⟩
      exact q row' H2 hM (hrn (by rw [List.length_map]; exact hne)) hrw2 hk2 fun b o n1 n2 e => P2 b o n1 n2 (s1 _ _ e)
end
end JR
namespace JR
open PySem PySem.Spec PyProof.Rows L2 SX
section
variable {P : Program} {w : World} {K : PySem.W.Frag} {mg : Str → Option Value} {base : Heap} {CT CF : Addr}
theorem sc_law : FnScope ["_law_script", "_law_signs_here", "_law_rows_here", "_law_alone", "_law_known", "_law_row", "_law_at", "_law_cell", "_law_text", "_law_table_here", "_law_follows", "_law_last", "_law_piece", "_law_others", "_law_left", "_law_right"] ["_law_script"] (defScope (top 52)) := ⟨rfl, rfl, rfl, by decide +kernel, rfl, by decide +kernel, by decide +kernel⟩
theorem ok_law (T : Txt K mg CT CF) {f : Addr} {fd : FuncData} (h0 : Fun K "law" "law" (top 52) f fd) (d_law_beside : DefC P w K mg base 2 "_law_beside" (spBeside)) (d_law_cell_at : DefC P w K mg base 1 "_law_cell_at" (spCell K)) (d_law_cut : DefC P w K mg base 1 "_law_cut" (spCut)) (d_law_longer : DefC P w K mg base 3 "_law_longer" (spLLonger)) (d_law_numbers : DefC P w K mg base 1 "_law_numbers" (spNumbers)) (d_law_table : DefC P w K mg base 2 "_law_table" (spLTable)) (d_read_back : DefC P w K mg base 9 "read_back" (spRead CT CF)) (d_read_on : DefC P w K mg base 8 "read_on" (spRead CT CF)) (d_swept : DefC P w K mg base 4 "swept" (spSwept CT)) (d_what_is_wrong : DefC P w K mg base 6 "what_is_wrong" (spWrong CT CF)) (m_after : MetC P w K mg base 6 CF "after" (spAfter CT CF)) (k_Follows : MakC P w K mg base 22 "Follows" CF (spFInit CT CF)) (k_Table : MakC P w K mg base 3 "Table" CT (spTInit CT)) : FnOk P w K mg base CX0 24 f fd ["_law_script"] (spLaw K) := by
  refine fn_of h0 sc_law (fun vs H Q E h => ?_) (fun cdv A outer s H vs Q E hr h => ?_)
  · (first | (obtain ⟨_, rfl, _⟩ := h; rfl) | (obtain ⟨_, _, rfl, _⟩ := h; rfl) | (obtain ⟨_, _, _, rfl, _⟩ := h; rfl) | (obtain ⟨_, _, _, _, rfl, _⟩ := h; rfl) | (obtain ⟨_, _, _, _, _, rfl, _⟩ := h; rfl) | (obtain ⟨_, _, _, _, _, _, rfl, _⟩ := h; rfl) | (obtain ⟨_, _, _, _, _, _, _, rfl, _⟩ := h; rfl) | (obtain ⟨_, _, _, _, _, _, _, _, rfl, _⟩ := h; rfl))
  · have hu := hu_of hr
    obtain ⟨a, ns, rfl, ha, hns, q⟩ := h
    refine ⟨_, (pss_cons (ps_asg (pcl d_law_table hr (by decide) (by rfl) (pa_cons (pcl d_law_cell_at hr (by decide) (by rfl) (pa_cons (pv 0) (pa_cons pe_int pa_nil))) (pa_cons pe_int (pa_cons pe_int pa_nil)))) (pg_tup rfl (pgs_cons (pg_name (i := 1) sc_law.nd rfl (Or.inl rfl)) (pgs_cons (pg_name (i := 2) sc_law.nd rfl (Or.inr rfl)) pgs_nil))))
      (pss_cons (ps_set (i := 3) sc_law.nd rfl (Or.inr rfl) (pe_op op_cat (pe_callTy (call_listS rfl) (by rfl) T.list boot_listT (pa_cons (pv 1) pa_nil)) (pe_lc (own := [("_law_left", 14), ("_law_right", 15)]) (by rfl) sc_law.nd (pi_list (pv 2)) (blkOk_by (own := [("_law_left", 14), ("_law_right", 15)]) (N := ["_law_script", "_law_signs_here", "_law_rows_here", "_law_alone", "_law_known", "_law_row", "_law_at", "_law_cell", "_law_text", "_law_table_here", "_law_follows", "_law_last", "_law_piece", "_law_others", "_law_left", "_law_right"]) (sc := defScope (top 52)) (by decide +kernel)) (fun _ _ _ _ _ => pg_tupK (K := K) (n := 2) rfl (pgs_cons (pg_name (i := 14) sc_law.nd rfl (Or.inl rfl)) (pgs_cons (pg_name (i := 15) sc_law.nd rfl (Or.inl rfl)) pgs_nil))) (fun _ _ _ _ _ => pts_one (pt_cmpR (op_eqDK (K := K) hr.units) (pcl d_law_cut hr (by decide) (by rfl) (pa_cons (pv 2) (pa_cons (pe_op op_add_str (pv 14) (pv 15)) pa_nil))) (pe_lst (pa_cons (pe_op op_add_str (pv 14) (pv 15)) pa_nil)) (nomark _))) (fun _ _ _ _ _ => (pe_op op_add_str (pv 14) (pv 15))))))
      (pss_cons (ps_set (i := 4) sc_law.nd rfl (Or.inr rfl) pe_dnewK)
      (pss_cons (ps_set (i := 5) sc_law.nd rfl (Or.inr rfl) (pe_lst pa_nil))
      (pss_cons (ps_for PassesOwn.never rfl (pi_enum (by rfl) T.enumerate (pa_cons (pe_op op_cat (pe_lst (pa_cons pe_int pa_nil)) (pe_slice sl_list (pv 0) (po_some pe_int) (po_some pe_int))) pa_nil)) (pg_tup rfl (pgs_cons (pg_name (i := 6) sc_law.nd rfl (Or.inl rfl)) (pgs_cons (pg_name (i := 7) sc_law.nd rfl (Or.inl rfl)) pgs_nil))) (pss_one (ps_expr (pcl d_law_longer hr (by decide) (by rfl) (pa_cons (pv 2) (pa_cons (pv 3) (pa_cons (pv 4) (pa_cons (pv 5) (pa_cons (pcl d_law_numbers hr (by decide) (by rfl) (pa_cons (pv 7) (pa_cons (pe_op op_add pe_int (pv 6)) (pa_cons (pe_op op_cat (pe_lst (pa_cons pe_int pa_nil)) (pe_op op_rep (pe_lst (pa_cons pe_int pa_nil)) pe_int)) pa_nil)))) pa_nil)))))))))
      (pss_cons (ps_set (i := 8) sc_law.nd rfl (Or.inl rfl) (pe_join pe_str (pv 5)))
      (pss_cons (ps_set (i := 9) sc_law.nd rfl (Or.inl rfl) (pmk k_Table hr (by decide) (by rfl) (pa_cons (pv 1) (pa_cons (pe_callTy call_list_of (by rfl) T.list boot_listT (pa_cons (pv 2) pa_nil)) pa_nil))))
      (pss_cons (ps_set (i := 10) sc_law.nd rfl (Or.inl rfl) (pmk k_Follows hr (by decide) (by rfl) (pa_cons (pv 9) pa_nil)))
      (pss_cons (ps_if (PW.pt (pw_or (pt_cmpR (op_neD hr.units) (pcl d_swept hr (by decide) (by rfl) (pa_cons (pv 9) (pa_cons (pv 8) pa_nil))) (pv 5) (nomark _)) (pw_or1 (pt_cmpR op_notN (pcl d_what_is_wrong hr (by decide) (by rfl) (pa_cons (pv 10) (pa_cons (pe_callTy call_list_of (by rfl) T.list boot_listT (pa_cons (pv 5) pa_nil)) pa_nil))) pe_non (nomark _))))) (pss_one (ps_ret pe_bl)) pss_nil)
      (pss_cons (ps_if (PW.pt (pw_or (pt_cmpR (op_neD hr.units) (pcl d_read_on hr (by decide) (by rfl) (pa_cons (pv 10) (pa_cons (pv 8) pa_nil))) (pv 5) (nomark _)) (pw_or1 (pt_cmpR (op_neD hr.units) (pcl d_read_back hr (by decide) (by rfl) (pa_cons (pv 10) (pa_cons (pv 8) pa_nil))) (pv 5) (nomark _))))) (pss_one (ps_ret pe_bl)) pss_nil)
      (pss_cons (ps_lock (ps_for PassesOwn.never rfl (pi_keys (pv 4)) (pg_name (i := 11) sc_law.nd rfl (Or.inl rfl)) (pss_one (ps_if (pt_cmpR (op_neD hr.units) (pmt m_after hr (by decide) (pv 10) (pa_cons (pv 11) pa_nil)) (pe_dget hu (pv 4) (pv 11) (fun _ _ => rfl)) (nomark _)) (pss_one (ps_ret pe_bl)) pss_nil))))
      (pss_cons (ps_setLc (i := 13) (own := [("_law_piece", 12)]) (by rfl) sc_law.nd rfl rfl (sw_true rfl rfl rfl (by decide +kernel)) (pi_list (pv 3)) (blkOk_by (own := [("_law_piece", 12)]) (N := ["_law_script", "_law_signs_here", "_law_rows_here", "_law_alone", "_law_known", "_law_row", "_law_at", "_law_cell", "_law_text", "_law_table_here", "_law_follows", "_law_last", "_law_piece", "_law_others", "_law_left", "_law_right"]) (sc := defScope (top 52)) (by decide +kernel)) (fun _ _ _ _ _ => pg_name (i := 12) sc_law.nd rfl (Or.inl rfl)) (fun _ _ _ _ _ => pts_one (pt_cmpR (op_notIn_seqK (K := K)) (pv 12) (pcl d_law_beside hr (by decide) (by rfl) (pa_cons (pv 2) (pa_cons (pv 3) (pa_cons (pv 4) (pa_cons (pe_ix (ix_listK (K := K)) (pv 5) (pe_un un_neg pe_int) (fun _ _ => rfl)) pa_nil))))) (by rfl))) (fun _ _ _ _ _ => (pv 12)))
      (pss_cons (ps_for PassesOwn.never rfl (pi_list (pe_slice sl_list (pv 13) po_none (po_some pe_int))) (pg_name (i := 12) sc_law.nd rfl (Or.inl rfl)) (pss_cons (ps_if (pt_cmpR (op_neD hr.units) (pcl d_what_is_wrong hr (by decide) (by rfl) (pa_cons (pv 10) (pa_cons (pe_op op_cat (pv 5) (pe_lst (pa_cons (pv 12) pa_nil))) pa_nil))) (pe_tup (pa_cons pe_str (pa_cons (pe_op op_sub (pe_callB call_len_seq (by rfl) T.len PySem.boot_len (pa_cons (pv 5) pa_nil)) pe_int) pa_nil))) (nomark _)) (pss_one (ps_ret pe_bl)) pss_nil)
      (pss_one (ps_if (pt_cmpR (op_eqD hr.units) (pcl d_swept hr (by decide) (by rfl) (pa_cons (pv 9) (pa_cons (pe_op op_add_str (pv 8) (pv 12)) pa_nil))) (pe_op op_cat (pv 5) (pe_lst (pa_cons (pv 12) pa_nil))) (nomark _)) (pss_one (ps_ret pe_bl)) pss_nil))))
      (pss_one (ps_ret pe_bl))))))))))))))), ?_⟩
    refine ⟨_, rfl, a, ns, rfl, ha, fun i => ?_⟩
    refine ⟨i, rfl, fun T0 qa ra H1 s1 ok hqa hra => ?_⟩
    refine ⟨qa, _, rfl, SqT.of hqa, rfl, _, _, rfl, _, _, rfl, rfl, ?_⟩
    have ls := ok.sg.2.2.2
    have nr := ok.nr
    -- alone
    refine ⟨_, rfl, T0.signs, rfl, small (by omega), fun pS hpS => ?_⟩
    have s2 := same_new (o := .lst ((sg T0.signs).map vS)) hpS
    have hS : upd H1 pS (.lst ((sg T0.signs).map vS)) pS = some (.lst ((sg T0.signs).map vS)) := upd_same
    have hra2 := hra.same s2
    have s12 := s1.trans s2
    generalize upd H1 pS (.lst ((sg T0.signs).map vS)) = H2 at s2 hS hra2 s12 ⊢
    clear s1 hra hpS s2 hqa
    obtain ⟨qs, hq1, hq2⟩ := id hra2
    have lqs : qs.length = T0.rows.length := Paired.length hq2
    refine ⟨_, rfl, ra, rfl, ⟨_, SqL.of hq1⟩, fun D hD => ?_⟩
    refine lc_list (xs := qs.map V.ref) (fun i H' => Same H2 H' ∧ LstAt H' D (((T0.rows.take i).filter (fun r => decide (Cut T0.rows (jn r) = [jn r]))).map jn)) ⟨same_new hD, upd_same⟩ (fun i H' _ z => SqL.of (z.1 _ _ hq1)) ?_ ?_
    · rintro i x H3 hx ⟨s3, hD1⟩
      rw [List.getElem?_map] at hx
      obtain ⟨qa, hqa, rfl⟩ : ∃ qa, qs[i]? = some qa ∧ x = V.ref qa := by
        cases e : qs[i]? with
        | none => rw [e] at hx; cases hx
        | some qa => rw [e] at hx; exact ⟨qa, rfl, (Option.some.inj hx).symm⟩
      obtain ⟨r, hr0, hqt⟩ := pair_get' hq2 hqa
      have lr := (ok.ok.row i r hr0).2.2.2
      have hj : jn r ∈ T0.pieces := List.mem_append_right _ (List.mem_map.mpr ⟨r, List.mem_of_getElem? hr0, rfl⟩)
      have lowj : ∀ c ∈ jn r, c < 0x110000 := low_pieces ok _ hj
      unfold jn at lr
      rw [List.length_append] at lr
      have sz : (S r.1).length + (S r.2).length ≤ sizeLine := small (by rw [len_S, len_S]; omega)
      refine ⟨qa, _, rfl, SqT.of (s3 _ _ hqt), rfl, _, _, rfl, _, _, rfl, rfl, ?_⟩
      refine ⟨rfl, ?_⟩
      refine ⟨_, rfl, _, rfl, _, rfl, _, _, rfl, rfl, sz, ?_⟩
      rw [S_cat]
      refine ⟨ra, r.1 ++ r.2, T0.rows, rfl, hra2.same s3, posR ok.ok, rows16 ok, by rw [List.length_append]; omega, lowj, fun pc H4 n4 hpc => ?_⟩
      refine ⟨_, rfl, _, rfl, _, _, rfl, rfl, sz, ?_⟩
      rw [S_cat]
      refine ⟨by show 1 ≤ sizeLine; decide, fun z hz => ?_⟩
      have s5 := same_new (o := .lst [vS (r.1 ++ r.2)]) hz
      refine ⟨rowD (Cut T0.rows (jn r)), rowD [jn r], dp_row (s5 _ _ hpc), dp_row (row := [jn r]) upd_same, shaped_row (low_cut lowj), shaped_row (low_sub (low_pieces ok) fun y hy => ?_), _, rfl, ?_⟩
      · rw [show y = jn r by simpa using hy]; exact hj
      rw [eqv_row]
      have s6 := n4.2.trans s5
      have hD2 : LstAt _ D _ := s6 _ _ hD1
      have e5 := filter_succ (f := fun r => decide (Cut T0.rows (jn r) = [jn r])) hr0
      refine ite2 (fun hf => ?_) (fun hf => ?_)
      · rw [if_pos hf] at e5
        refine ⟨_, rfl, _, rfl, _, _, rfl, rfl, sz, ?_⟩
        rw [S_cat]
        refine ⟨_, hD2, ?_, (s3.trans s6).mut hD, ?_⟩
        · rw [List.length_map, List.length_map]
          exact smallLt (Nat.lt_of_le_of_lt (List.length_filter_le _ _) (by rw [List.length_take]; omega))
        · unfold LstAt
          rw [upd_same, e5, List.map_append, List.map_append]; rfl
      · rw [if_neg hf, List.append_nil] at e5
        exact ⟨s3.trans s6, by rw [e5]; exact hD2⟩
    rintro H3 ⟨s3, hD1⟩
    rw [List.length_map, lqs, List.take_length] at hD1
    refine ⟨pS, D, _, _, rfl, rfl, s3 _ _ hS, hD1, ?_, fun pa hpa => ?_⟩
    · rw [List.length_map, List.length_map, List.length_map, len_sg]
      have := List.length_filter_le (fun r => decide (Cut T0.rows (jn r) = [jn r])) T0.rows
      exact small (by omega)
    rw [← List.map_append, alone_list T0 ok]
    have s4 := same_new (o := .lst ((aloneL T0).map vS)) hpa
    have hal : upd H3 pa (.lst ((aloneL T0).map vS)) pa = some (.lst ((aloneL T0).map vS)) := upd_same
    have s14 := s12.trans (s3.trans s4)
    have hra4 := hra2.same (s3.trans s4)
    generalize upd H3 pa (.lst ((aloneL T0).map vS)) = H4 at s4 hal s14 hra4 ⊢
    clear hD1 hD s3 hS hra2 hq1 hq2 s4 hpa lqs s12 qs
    -- known, row
    intro kn hkn
    have s5 := same_new (o := .dK []) hkn
    refine ⟨by show 0 ≤ sizeLine; decide, fun rw0 hrw => ?_⟩
    have s6 := same_new (o := .lst []) hrw
    have knr : kn ≠ rw0 := ne_of_none upd_same hrw
    have nra : rw0 ≠ pa := (ne_of_none (s5 _ _ hal) hrw).symm
    have nrr : rw0 ≠ ra := by
      obtain ⟨qs, hq1, _⟩ := hra4
      exact (ne_of_none (s5 _ _ hq1) hrw).symm
    have hkn5 : upd (upd H4 kn (.dK [])) rw0 (.lst []) kn = some (.dK []) := s6 _ _ upd_same
    have hrw5 : upd (upd H4 kn (.dK [])) rw0 (.lst []) rw0 = some (.lst []) := upd_same
    have s16 := s14.trans (s5.trans s6)
    have hra5 := hra4.same (s5.trans s6)
    have hal5 := (s5.trans s6) _ _ hal
    generalize upd (upd H4 kn (.dK [])) rw0 (.lst []) = H5 at s6 hkn5 hrw5 s16 hra5 hal5 ⊢
    clear s5 s6 s14 hra4 hal hkn hrw
    -- the row, made cell by cell
    refine ⟨by show 1 ≤ sizeLine; decide, fun l0 h0 => ?_⟩
    have t0 := same_new (o := .lst [V.int 0]) h0
    have cs62 : ((ns.drop 1).take 62).length ≤ 62 := by rw [List.length_take]; omega
    refine ⟨_, rfl, _, rfl, _, rfl, a, _, rfl, sqL_same ha (s16.trans t0), fun l1 h1 => ?_⟩
    rw [show cutV (ns.map V.int) (some (1 : Int)) (some (63 : Int)) = ((ns.drop 1).take 62).map V.int by
      rw [show (some (1 : Int)) = some ((1 : Nat) : Int) from rfl, show (some (63 : Int)) = some ((63 : Nat) : Int) from rfl, cutV_mid, List.map_take, List.map_drop]]
    generalize (ns.drop 1).take 62 = cs at cs62 ⊢
    have t1 := same_new (o := .lst (cs.map V.int)) h1
    refine ⟨l0, l1, _, _, rfl, rfl, t1 _ _ upd_same, upd_same, by rw [List.length_map]; exact small (by show 1 + cs.length ≤ _; omega), fun l2 h2 => ?_⟩
    have t2 := same_new (o := .lst ([V.int 0] ++ cs.map V.int)) h2
    have hl2 : upd (upd (upd H5 l0 (.lst [V.int 0])) l1 (.lst (cs.map V.int))) l2 (.lst ([V.int 0] ++ cs.map V.int)) l2 = some (.lst (((0 : Int) :: cs).map V.int)) := upd_same
    have t02 := t0.trans (t1.trans t2)
    have nl2 : l2 ≠ rw0 := (ne_of_none ((t0.trans t1) _ _ hrw5) h2).symm
    have hkn6 := t02 _ _ hkn5
    have hrw6 := t02 _ _ hrw5
    have hra6 := hra5.same t02
    have hal6 := t02 _ _ hal5
    generalize upd (upd (upd H5 l0 (.lst [V.int 0])) l1 (.lst (cs.map V.int))) l2 (.lst ([V.int 0] ++ cs.map V.int)) = H6 at hl2 t02 hkn6 hrw6 hra6 hal6 ⊢
    clear t0 t1 t2 h0 h1 h2 hkn5 hrw5 hra5 hal5 s16 ha
    have es63 : ((0 : Int) :: cs).length ≤ 63 := by show cs.length + 1 ≤ 63; omega
    have es0 : 0 < ((0 : Int) :: cs).length := Nat.succ_pos _
    generalize ((0 : Int) :: cs) = es at hl2 es63 es0
    have nl2k : l2 ≠ kn := ne_of hl2 hkn6 (by intro z; cases z)
    have nak : pa ≠ kn := ne_of hal6 hkn6 (by intro z; cases z)
    have kn0 : Known H6 kn T0 rw0 := ⟨[], hkn6, List.nodup_nil, fun kv hkv => by cases hkv⟩
    refine ⟨l2, es.map V.int, rfl, SqL.of hl2, for_it walk_enum (fun i σ' H' => ∃ (row : Rw) (x6 x7 x8 x9 x10 x11 x12 x13 x14 x15 : Option V), σ' = [some (V.ref a), some (vS T0.signs), some (V.ref ra), some (V.ref pa), some (V.ref kn), some (V.ref rw0), x6, x7, x8, x9, x10, x11, x12, x13, x14, x15] ∧ Made T0 row ∧ (0 < i → row ≠ []) ∧ LstAt H' rw0 row ∧ Known H' kn T0 rw0 ∧ ∀ b o, b ≠ kn → b ≠ rw0 → H6 b = some o → H' b = some o)
      ⟨[], _, _, _, _, _, _, _, _, _, _, rfl, made_nil T0, fun z => absurd z (Nat.lt_irrefl _), hrw6, kn0, fun _ _ _ _ e => e⟩ (fun i σ' H' _ p => by obtain ⟨_, _, _, _, _, _, _, _, _, _, _, _, _, _, _, _, P⟩ := p; exact SqL.of (P _ _ nl2k nl2 hl2)) ?_ ?_⟩
    · rintro i x σ' H7 H8 hi ⟨row, x6, x7, x8, x9, x10, x11, x12, x13, x14, x15, rfl, hM, hrn, hrw7, hkn7, P7⟩ ⟨Tt, v1, v2, rfl, nT, rfl, hv1, hv2⟩
      rw [List.length_map] at hi
      have e1 := Option.some.inj hv1
      subst e1
      obtain ⟨c, hc, rfl⟩ : ∃ c, es[i]? = some c ∧ v2 = V.int c := by
        have hv2 : (es.map V.int)[i]? = some v2 := hv2
        rw [List.getElem?_map] at hv2
        cases e : es[i]? with
        | none => rw [e] at hv2; cases hv2
        | some c => rw [e] at hv2; exact ⟨c, rfl, (Option.some.inj hv2).symm⟩
      have u1 := same_new (o := .tup [V.int (i : Int), V.int c]) nT
      refine ⟨Tt, _, rfl, SqT.of upd_same, rfl, _, _, rfl, _, _, rfl, rfl, ?_⟩
      refine ⟨_, rfl, _, rfl, _, rfl, _, rfl, _, rfl, _, rfl, _, _, rfl, rfl, by show 1 ≤ sizeLine; decide, fun m1 g1 => ?_⟩
      have u2 := same_new (o := .lst [V.int 4]) g1
      refine ⟨by show 1 ≤ sizeLine; decide, fun m2 g2 => ⟨m2, _, _, rfl, rfl, upd_same, by decide, by decide, by show 1 * 4 ≤ sizeLine; decide, fun m3 g3 => ?_⟩⟩
      have u3 := same_new (o := .lst [V.int 36]) g2
      have u4 := same_new (o := .lst (List.replicate (Int.toNat 4) [V.int 36]).flatten) g3
      refine ⟨m1, m3, _, _, rfl, rfl, (u3.trans u4) _ _ upd_same, upd_same, by show 1 + 4 ≤ sizeLine; decide, fun m4 g4 => ?_⟩
      have u5 := same_new (o := .lst ([V.int 4] ++ (List.replicate (Int.toNat 4) [V.int 36]).flatten)) g4
      refine ⟨c, 9701 + (i : Int), m4, [4, 36, 36, 36, 36], rfl, by omega, by omega, ?_, by decide, by decide, fun ds dp H9 n9 hp hds => ?_⟩
      · unfold IntAt; rw [upd_same]; rfl
      have u6 := u1.trans (u2.trans (u3.trans (u4.trans (u5.trans n9.2))))
      have P9 : ∀ b o, b ≠ kn → b ≠ rw0 → H6 b = some o → H9 b = some o := fun b o n1 n2 e => u6 _ _ (P7 b o n1 n2 e)
      have hrw9 : LstAt H9 rw0 row := u6 _ _ hrw7
      have rdp : rw0 ≠ dp := ne_of_none ((u1.trans (u2.trans (u3.trans (u4.trans u5)))) _ _ hrw7) n9.1
      refine ⟨ra, pa, kn, rw0, dp, T0, row, ds, rfl, ok, hra6.two P9 hkn6 hrw6 nrr.symm, P9 _ _ nak nra.symm hal6, hkn7.same u6, hrw9, hM, nra, nrr, hds, hp.length, rdp, fun row' H10 hM' hne' hrw10 hkn10 P10 => ?_⟩
      exact ⟨row', _, _, _, _, _, _, _, _, _, _, rfl, hM', fun _ => hne', hrw10, hkn10, fun b o n1 n2 e => P10 b o n1 n2 (P9 b o n1 n2 e)⟩
    rintro σ' H7 ⟨row, x6, x7, x8, x9, x10, x11, x12, x13, x14, x15, rfl, hM, hrn, hrw7, hkn7, P7⟩
    have hne : row ≠ [] := hrn (by rw [List.length_map]; exact es0)
    have hra7 := hra6.two P7 hkn6 hrw6 nrr.symm
    have hal7 : LstAt H7 pa (aloneL T0) := P7 _ _ nak nra.symm hal6
    clear P7 hl2 t02 hkn6 hrw6 hra6 hal6 kn0 hrn
    have len294 := made_len ok hM
    have flat294 := hM.2.2
    have low_row : Low row := low_sub (low_pieces ok) hM.2.1
    have cut_row := made_cut ok hM
    have sgn_row := made_signs ok hM.2.1
    -- the text, the table, follows
    refine ⟨⟨_, rfl⟩, _, rfl, _, rw0, row.map S, rfl, rfl, .inl (by rw [map_S]; exact SqL.of hrw7), join_sz row flat294, ?_⟩
    rw [join0]
    obtain ⟨qs, hq1, hq2⟩ := id hra7
    refine ⟨_, rfl, _, rfl, ra, _, rfl, .inl (SqL.of hq1), fun rl hrl => ?_⟩
    have v1 := same_new (o := .lst (qs.map V.ref)) hrl
    have hrl1 : RowsAt (upd H7 rl (.lst (qs.map V.ref))) rl T0.rows := ⟨qs, upd_same, Paired.mapP hq2 fun _ _ e => v1 _ _ e⟩
    have hrw8 := v1 _ _ hrw7
    have hkn8 := hkn7.same v1
    have hra8 := hra7.same v1
    have hal8 := v1 _ _ hal7
    generalize upd H7 rl (.lst (qs.map V.ref)) = H8 at hrl1 hrw8 hkn8 hra8 hal8 ⊢
    clear v1 hrl hq1 hq2 hrw7 hkn7 hra7 hal7 qs
    intro tt tx htt htx txne
    have v2 : Same H8 (upd (upd H8 tx (.own tt)) tt (.ins CT tx [])) := (same_new htx).trans (same_new (by rw [upd_ne txne.symm]; exact htt))
    refine ⟨tt, T0, rl, tx, rfl, upd_same, ok, hrl1.same v2, fun bp H9 b9 tab9 => ⟨rfl, ?_⟩⟩
    have v3 : Same H8 H9 := fun b o e => b9 b o (ne_of_none e htt) (v2 _ _ e)
    refine ⟨_, rfl, fun ff fx hff hfx fxne => ?_⟩
    have v4 : Same H9 (upd (upd H9 fx (.own ff)) ff (.ins CF fx [])) := (same_new hfx).trans (same_new (by rw [upd_ne fxne.symm]; exact hff))
    refine ⟨ff, tt, bp, T0, fx, rfl, upd_same, tab9.same v4, fun d H10 b10 fol => ⟨rfl, ?_⟩⟩
    have v5 : Same H9 H10 := fun b o e => b10 b o (ne_of_none e hff) (v4 _ _ e)
    have v6 := v3.trans v5
    have hrw10 : LstAt H10 rw0 row := v6 _ _ hrw8
    have hkn10 := hkn8.same v6
    have hra10 := hra8.same v6
    have hal10 : LstAt H10 pa (aloneL T0) := v6 _ _ hal8
    clear v2 v3 v4 v5 v6 b9 b10 tab9 hrl1 hrw8 hkn8 hra8 hal8 htt htx hff hfx
    have tx0 : TxtOf T0 row.flatten := ⟨sgn_row, by omega⟩
    have eqn : ∀ r2 : Rw, r2 = row → (!PyData.eqv (rowD r2) (rowD row)) = false := fun r2 e => by rw [eqv_row, decide_eq_true e]; rfl
    -- swept, what is wrong
    refine ⟨_, rfl, _, rfl, tt, bp, T0, row.flatten, rfl, fol.tab, sgn_row, by omega, fun ps H11 n11 hps => ?_⟩
    have f11 := (FQ.refl fol).same n11.2
    have hrw11 := f11.lst fol hrw10
    refine ⟨_, rfl, rowD (Cut T0.rows row.flatten), rowD row, dp_row hps, dp_row hrw11, shaped_row (by rw [cut_row]; exact low_row), shaped_row low_row, _, rfl, ?_⟩
    rw [eqn _ cut_row]
    refine iteF ?_
    refine ⟨_, rfl, _, rfl, rw0, _, rfl, .inl (SqL.of hrw11), fun rl hrl => ?_⟩
    have f12 := f11.same (same_new (o := .lst (row.map vS)) hrl)
    refine ⟨ff, tt, bp, d, T0, rl, row, rfl, f12.2, upd_same, by omega, made_alone ok hM, fun H13 f13 _ => ?_, fun k z H13 f13 bad _ => ?_⟩
    rotate_left
    · obtain ⟨⟨p, q', a1, a2, a3⟩, _⟩ := bad
      rw [made_fit hM k p q' a1 a2] at a3
      cases a3
    have f13 := f12.trans f13
    clear f11 f12 n11
    refine ⟨rfl, _, rfl, iteF ?_⟩
    -- read on, read back
    refine ⟨_, rfl, _, rfl, ff, tt, bp, d, T0, row.flatten, rfl, f13.2, tx0, fun pr H14 hpr f14 hpl => ?_⟩
    have f14 := f13.trans f14
    refine ⟨_, rfl, rowD (Cut T0.rows row.flatten), rowD row, dp_row hpl, dp_row (f14.lst fol hrw10), shaped_row (by rw [cut_row]; exact low_row), shaped_row low_row, _, rfl, ?_⟩
    rw [eqn _ cut_row]
    refine iteF ?_
    refine ⟨_, rfl, _, rfl, ff, tt, bp, d, T0, row.flatten, rfl, f14.2, tx0, fun pb H15 hpb f15 hpl2 => ?_⟩
    have f15 := f14.trans f15
    refine ⟨_, rfl, rowD (Cut T0.rows row.flatten), rowD row, dp_row hpl2, dp_row (f15.lst fol hrw10), shaped_row (by rw [cut_row]; exact low_row), shaped_row low_row, _, rfl, ?_⟩
    rw [eqn _ cut_row]
    refine iteF ?_
    have hrw15 : LstAt H15 rw0 row := f15.lst fol hrw10
    have hkn15 := f15.known fol hkn10
    have hra15 := f15.rows fol hra10
    have hal15 : LstAt H15 pa (aloneL T0) := f15.lst fol hal10
    have fol15 := f15.2
    clear f13 f14 f15 hpl hpl2 hpr hpb fol hrw10 hkn10 hra10 hal10 hps hrw11 hrl
    -- those asked for
    obtain ⟨kvs, k1, k2, k3⟩ := hkn15
    have kd : kn ≠ d := fol15.dne k1
    have kref : ∀ kv ∈ kvs, ∃ a, kv.2 = V.ref a := fun kv hkv => by
      obtain ⟨p, a, _, _, e, _⟩ := k3 kv hkv
      exact ⟨a, by rw [e]⟩
    have p0 := pieces_pos ok
    have nol : ∀ xs, (HO.dK kvs) ≠ .lst xs := fun _ z => by cases z
    have not : ∀ xs, (HO.dK kvs) ≠ .tup xs := fun _ z => by cases z
    refine ⟨kn, .dK kvs, k1, trivial, fun od => ?_⟩
    have b1 : But kn H15 (upd H15 kn (.frz od (.dK kvs))) := but_upd
    have folL := fol15.butK b1 k1 kref p0
    have hrwL : LstAt (upd H15 kn (.frz od (.dK kvs))) rw0 row := lst_but b1 k1 nol hrw15
    have hraL := rows_but b1 k1 nol not hra15
    have halL : LstAt (upd H15 kn (.frz od (.dK kvs))) pa (aloneL T0) := lst_but b1 k1 nol hal15
    have kL : upd H15 kn (.frz od (.dK kvs)) kn = some (.frz od (.dK kvs)) := upd_same
    have k3L : ∀ kv ∈ kvs, ∃ p a, p ∈ T0.pieces ∧ alone T0 p ∧ kv = (Sum.inr (S p), V.ref a) ∧ LstAt (upd H15 kn (.frz od (.dK kvs))) a (bes T0 p) ∧ a ≠ rw0 := fun kv hkv => by
      obtain ⟨p, a, a1, a2, a3, a4, a5⟩ := k3 kv hkv
      exact ⟨p, a, a1, a2, a3, lst_but b1 k1 nol a4, a5⟩
    generalize upd H15 kn (.frz od (.dK kvs)) = HL at folL hrwL hraL halL kL k3L ⊢
    clear b1 k1 k3 hrw15 hra15 hal15 fol15
    refine ⟨_, rfl, kn, od, rfl, .inl ⟨kvs, kL, ?_⟩⟩
    refine for_it walk_keys (fun i σ' H' => (∃ y11, σ' = [some (V.ref a), some (vS T0.signs), some (V.ref ra), some (V.ref pa), some (V.ref kn), some (V.ref rw0), x6, x7, some (vS row.flatten), some (V.ref tt), some (V.ref ff), y11, x12, x13, x14, x15]) ∧ FQ CT CF HL H' ff tt bp d T0) ⟨⟨_, rfl⟩, FQ.refl folL⟩ (fun _ _ _ _ p => p.2.1 _ _ kd kL) ?_ ?_
    · rintro i x σ' H16 H17 hi ⟨⟨y11, rfl⟩, fq⟩ ⟨rfl, k, v, hkv, rfl⟩
      have hkm := List.mem_of_getElem? hkv
      obtain ⟨p, a1, hp, hpa, e, _, _⟩ := k3L _ hkm
      obtain ⟨e1, e2⟩ := Prod.mk.inj e
      subst e1
      obtain ⟨a2, v2, hv, hla⟩ : ∃ a2 v2, valV kvs (Sum.inr (S p) : Key) = some v2 ∧ v2 = V.ref a2 ∧ LstAt HL a2 (bes T0 p) := by
        cases hv : valV kvs (Sum.inr (S p) : Key) with
        | none => exact absurd (List.mem_map.mpr ⟨_, hkm, rfl⟩) (valV_not hv)
        | some v2 =>
          obtain ⟨a2, z1, z2, _⟩ := Known.get k3L hv
          exact ⟨a2, v2, rfl, z1, z2⟩
      obtain ⟨rfl, hla⟩ := hla
      obtain ⟨dx, ka, m, g1, _⟩ := fq.2.ex
      have hlow : Low (bes T0 p) := low_sub (low_pieces ok) fun x hx => (List.mem_filter.mp hx).1
      refine ⟨_, rfl, ff, dx, _, rfl, g1, ffl_no (by decide +kernel), _, rfl, ff, tt, bp, d, T0, p, rfl, fq.2, hp, fun la H18 nla fq2 hla2 => ?_⟩
      have fq3 := fq.trans fq2
      refine ⟨_, rfl, _, rfl, kn, _, rfl, .inl ⟨kvs, Sum.inr (S p), .inr ⟨od, fq3.1 _ _ kd kL⟩, rfl, hv.symm⟩, rowD (bes T0 p), rowD (bes T0 p), dp_row hla2, dp_row (fq3.lst folL hla), shaped_row hlow, shaped_row hlow, _, rfl, ?_⟩
      rw [eqv_row, decide_eq_true rfl]
      exact iteF ⟨⟨_, rfl⟩, fq3⟩
    rintro σ' H16 ⟨⟨y11, rfl⟩, fq⟩
    have kF := fq.1 _ _ kd kL
    refine ⟨kF, ?_⟩
    have nolF : ∀ xs, (HO.frz od (HO.dK kvs)) ≠ .lst xs := fun _ z => by cases z
    have notF : ∀ xs, (HO.frz od (HO.dK kvs)) ≠ .tup xs := fun _ z => by cases z
    have b2 : But kn H16 (upd H16 kn (.dK kvs)) := but_upd
    have folM := fq.2.butF b2 kF
    have hrwM : LstAt (upd H16 kn (.dK kvs)) rw0 row := lst_but b2 kF nolF (fq.lst folL hrwL)
    have hraM := rows_but b2 kF nolF notF (fq.rows folL hraL)
    have halM : LstAt (upd H16 kn (.dK kvs)) pa (aloneL T0) := lst_but b2 kF nolF (fq.lst folL halL)
    have kM : upd H16 kn (.dK kvs) kn = some (.dK kvs) := upd_same
    have k3M : ∀ kv ∈ kvs, ∃ p a, p ∈ T0.pieces ∧ alone T0 p ∧ kv = (Sum.inr (S p), V.ref a) ∧ LstAt (upd H16 kn (.dK kvs)) a (bes T0 p) := fun kv hkv => by
      obtain ⟨p, a, a1, a2, a3, a4, a5⟩ := k3L kv hkv
      exact ⟨p, a, a1, a2, a3, lst_but b2 kF nolF (fq.lst folL a4)⟩
    generalize upd H16 kn (.dK kvs) = HM at folM hrwM hraM halM kM k3M ⊢
    clear b2 kF fq folL hrwL hraL halL kL k3L
    -- those that may not stand behind the last
    obtain ⟨row0, l, el⟩ : ∃ row0 l, row = row0 ++ [l] := ⟨_, _, (List.dropLast_concat_getLast hne).symm⟩
    have hlast : row.getLast? = some l := by rw [el, List.getLast?_concat]
    have hlm : l ∈ T0.pieces := hM.2.1 l (by rw [el]; simp)
    have hla : alone T0 l := good_mem (posR ok.ok) row hM.1 l (by rw [el]; simp)
    have emap : row.map vS = row0.map vS ++ [vS l] := by rw [el, List.map_append]; rfl
    refine ⟨_, rfl, pa, rfl, ⟨_, SqL.of halM⟩, fun D hD => ?_⟩
    have knD : kn ≠ D := ne_of_none kM hD
    refine lc_list (xs := (aloneL T0).map vS) (fun i H' => But kn HM H' ∧ Known H' kn T0 D ∧ LstAt H' D (((aloneL T0).take i).filter (fun x => !decide (x ∈ bes T0 l)))) ⟨(same_new hD).but kn, ⟨kvs, same_new hD _ _ kM, k2, fun kv hkv => ?_⟩, upd_same⟩ (fun i H' _ z => SqL.of (lst_but z.1 kM nol halM)) ?_ ?_
    · obtain ⟨p, a, a1, a2, a3, a4⟩ := k3M kv hkv
      exact ⟨p, a, a1, a2, a3, same_new hD _ _ a4, ne_of_none a4 hD⟩
    · rintro i x H17 hx ⟨b3, hkn3, hD3⟩
      obtain ⟨x, hx', rfl⟩ := get_vS hx
      have hrw3 : H17 rw0 = some (.lst (row.map vS)) := lst_but b3 kM nol hrwM
      rw [emap] at hrw3
      refine ⟨rfl, ?_⟩
      refine ⟨_, rfl, _, rfl, _, rfl, _, rfl, _, rfl, _, rfl, rw0, _, _, vS l, rfl, rfl, SqL.of hrw3, atI_last _ _, ra, pa, kn, D, T0, l, rfl, ok, rows_but b3 kM nol not hraM, lst_but b3 kM nol halM, hkn3, ⟨_, hD3⟩, hlm, hla, fun sa H18 b4 hkn4 hsa nsa => ?_⟩
      refine ⟨sa, _, rfl, .inl (SqL.of hsa), rfl, flat_row _, _, rfl, ?_⟩
      have hD4 : LstAt H18 D _ := b4 _ _ knD.symm hD3
      have e5 := filter_succ (f := fun x => !decide (x ∈ bes T0 l)) hx'
      refine ite2 (fun hn => ?_) (fun hn => ?_)
      · have hn : (!inV (vS x) ((bes T0 l).map vS)) = true := hn
        rw [inV_row] at hn
        rw [if_pos hn] at e5
        refine ⟨_, rfl, _, hD4, ?_, (b3.trans b4).mut hD, hkn4.to (fun o e => by rw [upd_ne knD]; exact e) (fun b o n1 n2 e => by rw [upd_ne n2]; exact e), ?_⟩
        · rw [List.length_map]
          have := aloneL_len ok
          exact smallLt (Nat.lt_of_le_of_lt (List.length_filter_le _ _) (by rw [List.length_take]; omega))
        · unfold LstAt
          rw [upd_same, e5, List.map_append]; rfl
      · have hn : ¬ (!inV (vS x) ((bes T0 l).map vS)) = true := hn
        rw [inV_row] at hn
        rw [if_neg hn, List.append_nil] at e5
        exact ⟨b3.trans b4, hkn4, by rw [e5]; exact hD4⟩
    rintro H17 ⟨b3, _, hD3⟩
    rw [List.length_map, List.take_length] at hD3
    have hos : ∀ x ∈ (aloneL T0).filter (fun x => !decide (x ∈ bes T0 l)), x ∈ T0.pieces ∧ alone T0 x ∧ fit T0 l x = false := fun x hx => by
      obtain ⟨h1, h2⟩ := List.mem_filter.mp hx
      obtain ⟨h3, h4⟩ := aloneL_mem h1
      refine ⟨h3, h4, ?_⟩
      cases hf : fit T0 l x with
      | false => rfl
      | true =>
        have : x ∈ bes T0 l := List.mem_filter.mpr ⟨h3, hf⟩
        rw [decide_eq_true this] at h2
        cases h2
    generalize (aloneL T0).filter (fun x => !decide (x ∈ bes T0 l)) = os at hD3 hos
    have folN := folM.butK b3 kM kref p0
    have hrwN : LstAt H17 rw0 row := lst_but b3 kM nol hrwM
    clear b3 folM hrwM hraM halM kM k3M hD
    refine ⟨_, rfl, _, rfl, D, _, rfl, SqL.of hD3, fun sl hsl => ?_⟩
    have hsl2 : upd H17 sl (.lst (cutV (os.map vS) none (some 3))) sl = some (.lst ((os.take 3).map vS)) := by
      rw [upd_same, show (some (3 : Int)) = some ((3 : Nat) : Int) from rfl, cutV_to, List.map_take]
    have w1 := same_new (o := .lst (cutV (os.map vS) none (some 3))) hsl
    have folP := folN.same w1
    have hrwP : LstAt _ rw0 row := w1 _ _ hrwN
    generalize upd H17 sl (.lst (cutV (os.map vS) none (some 3))) = HP at hsl2 folP hrwP ⊢
    clear w1 folN hrwN hsl hD3
    refine ⟨sl, rfl, ⟨_, SqL.of hsl2⟩, for_list (xs := (os.take 3).map vS) (fun i σ' H' => (∃ y12, σ' = [some (V.ref a), some (vS T0.signs), some (V.ref ra), some (V.ref pa), some (V.ref kn), some (V.ref rw0), x6, x7, some (vS row.flatten), some (V.ref tt), some (V.ref ff), y11, y12, some (V.ref D), x14, x15]) ∧ FQ CT CF HP H' ff tt bp d T0) ⟨⟨_, rfl⟩, FQ.refl folP⟩ (fun i σ' H' _ p => SqL.of (p.2.lst folP hsl2)) ?_ ?_⟩
    · rintro i x σ' H18 hx ⟨⟨y12, rfl⟩, fq⟩
      obtain ⟨x, hx', rfl⟩ := get_vS hx
      obtain ⟨hxm, hxa, hxf⟩ := hos x (List.mem_of_mem_take (List.mem_of_getElem? hx'))
      have lx := piece_len ok.ok x hxm
      have hrw1 : H18 rw0 = some (.lst (row.map vS)) := fq.lst folP hrwP
      have hrx : ∀ p ∈ row ++ [x], p ∈ T0.pieces ∧ alone T0 p := fun p hp => by
        rcases List.mem_append.mp hp with z | z
        · exact made_alone ok hM p z
        · rw [show p = x by simpa using z]; exact ⟨hxm, hxa⟩
      have low_rx : Low (row ++ [x]) := low_sub (low_pieces ok) fun p hp => (hrx p hp).1
      have szr : (row.map vS).length + 1 ≤ sizeLine := by rw [List.length_map]; exact small (by omega)
      refine ⟨_, rfl, _, rfl, _, rfl, by show 1 ≤ sizeLine; decide, fun z hz => ?_⟩
      have t1 := same_new (o := .lst [vS x]) hz
      refine ⟨rw0, z, _, _, rfl, rfl, t1 _ _ hrw1, upd_same, szr, fun p2 hp2 => ?_⟩
      have t2 := t1.trans (same_new (o := .lst (row.map vS ++ [vS x])) hp2)
      have f2 := fq.same t2
      refine ⟨ff, tt, bp, d, T0, p2, row ++ [x], rfl, f2.2, ?_, by rw [List.length_append]; show row.length + 1 ≤ 1000; omega, hrx, fun H19 f3 hall => (bad_some hlast hxf hall).elim, fun k y H19 f3 bad hy => ?_⟩
      · unfold LstAt; rw [upd_same, List.map_append]; rfl
      have f4 := f2.trans f3
      have hrw4 := f4.lst folP hrwP
      have ek : (k : Int) = (((row.map vS).length : Nat) : Int) - 1 := by rw [List.length_map]; exact bad_at ok hM hlast hxf bad
      refine ⟨_, rfl, rw0, _, rfl, .inl (SqL.of hrw4), _, _, rfl, rfl, by show 2 ≤ sizeLine; decide, fun y2 hy2 => ?_⟩
      have t5 := same_new (o := .tup [.str "border", .int ((((row.map vS).length : Nat) : Int) - 1)]) hy2
      refine ⟨bord k, bord k, dp_bord (t5 _ _ hy), dp_bord (by rw [ek]; exact upd_same), shaped_bord _, shaped_bord _, _, rfl, ?_⟩
      rw [eqv_bord]
      refine iteF ?_
      have f5 := f4.same t5
      have hrw5 := f5.lst folP hrwP
      -- swept
      refine ⟨_, rfl, _, rfl, _, rfl, _, _, rfl, rfl, small (by rw [len_S, len_S]; omega), ?_⟩
      rw [S_cat]
      have hsg : ∀ c ∈ row.flatten ++ x, c ∈ T0.signs := fun c hc => (List.mem_append.mp hc).elim (sgn_row c) (piece_signs ok.ok x hxm c)
      refine ⟨tt, bp, T0, row.flatten ++ x, rfl, f5.2.tab, hsg, by rw [List.length_append]; omega, fun ps H20 n6 hps => ?_⟩
      have f6 := f5.same n6.2
      have hrw6 := f6.lst folP hrwP
      refine ⟨_, rfl, _, rfl, by show 1 ≤ sizeLine; decide, fun z3 hz3 => ?_⟩
      have t7 := same_new (o := .lst [vS x]) hz3
      refine ⟨rw0, z3, _, _, rfl, rfl, t7 _ _ hrw6, upd_same, szr, fun p4 hp4 => ?_⟩
      have t8 := t7.trans (same_new (o := .lst (row.map vS ++ [vS x])) hp4)
      refine ⟨rowD (Cut T0.rows (row.flatten ++ x)), rowD (row ++ [x]), dp_row (t8 _ _ hps), dp_row (by rw [upd_same, List.map_append]; rfl), shaped_row (low_cut fun c hc => tls_low c (ok.sg.2.1 c (hsg c hc))), shaped_row low_rx, _, rfl, ?_⟩
      rw [eqv_row, decide_eq_false (not_cut ok hlast hxf)]
      exact iteF ⟨⟨_, rfl⟩, f6.same t8⟩
    · rintro σ' H18 _
      exact q _
end
end JR
namespace JR
open PySem PySem.Spec PyProof.Rows L2 SX
section
variable {P : Program} {w : World} {K : PySem.W.Frag} {mg : Str → Option Value} {base : Heap} {CT CF : Addr}
/-- all promises, each def by those that it calls -/
theorem chain (T : Txt K mg CT CF) {f : Addr} {fd : FuncData}
    (h_Table_signs : HereM K CT "signs" "Table.signs" (inClass (top 42) 1))
    (h_Table_rows : HereM K CT "rows" "Table.rows" (inClass (top 42) 2))
    (h_Table_pieces : HereM K CT "pieces" "Table.pieces" (inClass (top 42) 3))
    (h_Table_which : HereM K CT "which" "Table.which" (inClass (top 42) 4))
    (h_Table_parts : HereM K CT "parts" "Table.parts" (inClass (top 42) 6))
    (h_Table_rank : HereM K CT "rank" "Table.rank" (inClass (top 42) 7))
    (h_is_whole : Here K mg "is_whole" (top 10))
    (h_is_sign : Here K mg "is_sign" (top 39))
    (h_is_row : Here K mg "is_row" (top 41))
    (h_look_at_signs : Here K mg "look_at_signs" (top 40))
    (h_Table_longest : HereM K CT "longest" "Table.longest" (inClass (top 42) 8))
    (h_Table_init : HereI K mg "Table" CT "Table.__init__" (inClass (top 42) 0))
    (h_look_at_text : Here K mg "look_at_text" (top 12))
    (h_look_at_row : Here K mg "look_at_row" (top 13))
    (h_joined_row : Here K mg "joined_row" (top 14))
    (h_signs_of : Here K mg "signs_of" (top 15))
    (h_swept_from : Here K mg "swept_from" (top 16))
    (h_swept : Here K mg "swept" (top 17))
    (h_look_at_piece : Here K mg "look_at_piece" (top 19))
    (h_own_rank : Here K mg "own_rank" (top 21))
    (h_edge : Here K mg "edge" (top 20))
    (h_joined_over : Here K mg "joined_over" (top 22))
    (h_stands_alone : Here K mg "stands_alone" (top 23))
    (h_Follows_init : HereI K mg "Follows" CF "Follows.__init__" (inClass (top 25) 0))
    (h_Follows_table : HereM K CF "table" "Follows.table" (inClass (top 25) 1))
    (h_Follows_is_alone : HereM K CF "is_alone" "Follows.is_alone" (inClass (top 25) 2))
    (h_Follows_fits : HereM K CF "fits" "Follows.fits" (inClass (top 25) 3))
    (h_Follows_after : HereM K CF "after" "Follows.after" (inClass (top 25) 5))
    (h_what_is_wrong : Here K mg "what_is_wrong" (top 8))
    (h_last_at : Here K mg "last_at" (top 27))
    (h_first_at : Here K mg "first_at" (top 29))
    (h_longer_lasts : Here K mg "longer_lasts" (top 28))
    (h_lasts : Here K mg "lasts" (top 30))
    (h_firsts : Here K mg "firsts" (top 31))
    (h_read_on : Here K mg "read_on" (top 32))
    (h_read_back : Here K mg "read_back" (top 33))
    (h_law_cell_at : Here K mg "_law_cell_at" (top 44))
    (h_law_numbers : Here K mg "_law_numbers" (top 45))
    (h_law_signs : Here K mg "_law_signs" (top 46))
    (h_law_rows : Here K mg "_law_rows" (top 47))
    (h_law_table : Here K mg "_law_table" (top 48))
    (h_law_cut : Here K mg "_law_cut" (top 49))
    (h_law_beside : Here K mg "_law_beside" (top 50))
    (h_law_longer : Here K mg "_law_longer" (top 51))
    (h_law : Fun K "law" "law" (top 52) f fd)
    : FnOk P w K mg base CX0 24 f fd ["_law_script"] (spLaw K) := by
  have m_signs : MetC P w K mg base 1 CT "signs" (spSigns CT) := ok_Table_signs T h_Table_signs 
  have m_rows : MetC P w K mg base 1 CT "rows" (spRows CT) := ok_Table_rows T h_Table_rows 
  have m_pieces : MetC P w K mg base 1 CT "pieces" (spPieces CT) := ok_Table_pieces T h_Table_pieces 
  have m_which : MetC P w K mg base 1 CT "which" (spWhich CT) := ok_Table_which T h_Table_which 
  have m_parts : MetC P w K mg base 2 CT "parts" (spParts CT) := ok_Table_parts T h_Table_parts m_which
  have m_rank : MetC P w K mg base 1 CT "rank" (spRank CT) := ok_Table_rank T h_Table_rank 
  have d_is_whole : DefC P w K mg base 1 "is_whole" (spWhole) := ok_is_whole T h_is_whole 
  have d_is_sign : DefC P w K mg base 1 "is_sign" (spIsSign) := ok_is_sign T h_is_sign 
  have d_is_row : DefC P w K mg base 1 "is_row" (spIsRow) := ok_is_row T h_is_row 
  have d_look_at_signs : DefC P w K mg base 2 "look_at_signs" (spLookSigns) := ok_look_at_signs T h_look_at_signs d_is_sign
  have m_longest : MetC P w K mg base 1 CT "longest" (spLongest CT) := ok_Table_longest T h_Table_longest 
  have k_Table : MakC P w K mg base 3 "Table" CT (spTInit CT) := ok_Table_init T h_Table_init d_is_row d_look_at_signs
  have d_look_at_text : DefC P w K mg base 2 "look_at_text" (spLookText CT) := ok_look_at_text T h_look_at_text m_signs
  have d_look_at_row : DefC P w K mg base 2 "look_at_row" (spLookRow CT) := ok_look_at_row T h_look_at_row m_which
  have d_joined_row : DefC P w K mg base 1 "joined_row" (spJoined) := ok_joined_row T h_joined_row 
  have d_signs_of : DefC P w K mg base 3 "signs_of" (spSignsOf CT) := ok_signs_of T h_signs_of d_look_at_text
  have d_swept_from : DefC P w K mg base 3 "swept_from" (spSweptFrom CT) := ok_swept_from T h_swept_from d_is_whole d_joined_row d_look_at_row m_rows
  have d_swept : DefC P w K mg base 4 "swept" (spSwept CT) := ok_swept T h_swept d_signs_of d_swept_from
  have d_look_at_piece : DefC P w K mg base 2 "look_at_piece" (spLookPiece CT) := ok_look_at_piece T h_look_at_piece m_which
  have d_own_rank : DefC P w K mg base 2 "own_rank" (spOwn CT) := ok_own_rank T h_own_rank m_signs m_which
  have d_edge : DefC P w K mg base 3 "edge" (spEdge CT) := ok_edge T h_edge m_parts
  have d_joined_over : DefC P w K mg base 4 "joined_over" (spJoinedOver CT) := ok_joined_over T h_joined_over d_edge d_own_rank m_rank
  have d_stands_alone : DefC P w K mg base 21 "stands_alone" (spStands CT 16) := ok_stands_alone T h_stands_alone d_joined_over d_look_at_piece d_own_rank m_parts
  have k_Follows : MakC P w K mg base 22 "Follows" CF (spFInit CT CF) := ok_Follows_init T h_Follows_init d_stands_alone m_pieces
  have m_table : MetC P w K mg base 1 CF "table" (spFTable CT CF) := ok_Follows_table T h_Follows_table 
  have m_is_alone : MetC P w K mg base 1 CF "is_alone" (spIsAlone CT CF) := ok_Follows_is_alone T h_Follows_is_alone 
  have m_fits : MetC P w K mg base 5 CF "fits" (spFits CT CF) := ok_Follows_fits T h_Follows_fits d_joined_over
  have m_after : MetC P w K mg base 6 CF "after" (spAfter CT CF) := ok_Follows_after T h_Follows_after d_look_at_piece m_fits m_pieces
  have d_what_is_wrong : DefC P w K mg base 6 "what_is_wrong" (spWrong CT CF) := ok_what_is_wrong T h_what_is_wrong m_fits m_is_alone m_table m_which
  have d_last_at : DefC P w K mg base 6 "last_at" (spLastAt CT CF) := ok_last_at T h_last_at m_fits m_is_alone m_longest m_table
  have d_first_at : DefC P w K mg base 6 "first_at" (spFirstAt CT CF) := ok_first_at T h_first_at m_fits m_is_alone m_longest m_table
  have d_longer_lasts : DefC P w K mg base 7 "longer_lasts" (spLonger CT CF) := ok_longer_lasts T h_longer_lasts d_last_at
  have d_lasts : DefC P w K mg base 8 "lasts" (spLasts CT CF) := ok_lasts T h_lasts d_longer_lasts d_look_at_text m_table
  have d_firsts : DefC P w K mg base 7 "firsts" (spFirsts CT CF) := ok_firsts T h_firsts d_first_at d_look_at_text m_table
  have d_read_on : DefC P w K mg base 8 "read_on" (spRead CT CF) := ok_read_on T h_read_on d_firsts
  have d_read_back : DefC P w K mg base 9 "read_back" (spRead CT CF) := ok_read_back T h_read_back d_lasts
  have d_law_cell_at : DefC P w K mg base 1 "_law_cell_at" (spCell K) := ok_law_cell_at T h_law_cell_at 
  have d_law_numbers : DefC P w K mg base 1 "_law_numbers" (spNumbers) := ok_law_numbers T h_law_numbers 
  have d_law_signs : DefC P w K mg base 1 "_law_signs" (spLSigns) := ok_law_signs T h_law_signs 
  have d_law_rows : DefC P w K mg base 1 "_law_rows" (spLRows) := ok_law_rows T h_law_rows 
  have d_law_table : DefC P w K mg base 2 "_law_table" (spLTable) := ok_law_table T h_law_table d_law_numbers d_law_rows d_law_signs
  have d_law_cut : DefC P w K mg base 1 "_law_cut" (spCut) := ok_law_cut T h_law_cut 
  have d_law_beside : DefC P w K mg base 2 "_law_beside" (spBeside) := ok_law_beside T h_law_beside d_law_cut
  have d_law_longer : DefC P w K mg base 3 "_law_longer" (spLLonger) := ok_law_longer T h_law_longer d_law_beside
  exact ok_law T h_law d_law_beside d_law_cell_at d_law_cut d_law_longer d_law_numbers d_law_table d_read_back d_read_on d_swept d_what_is_wrong m_after k_Follows k_Table
end
/-! ### the head: facts by names, the run -/
def gd (x : Str) (i : Nat) : He.DefD := ⟨(x, none), x, x, defArgs (top i), defBody (top i), defScope (top i), [], []⟩
def md (C m q : Str) (i j : Nat) : He.DefD := ⟨(C, some m), m, q, defArgs (inClass (top i) j), defBody (inClass (top i) j), defScope (inClass (top i) j), [], []⟩
def fn : List He.DefD := [gd "what_is_wrong" 8, gd "is_whole" 10, gd "look_at_text" 12, gd "look_at_row" 13,
  gd "joined_row" 14, gd "signs_of" 15, gd "swept_from" 16, gd "swept" 17,
  gd "look_at_piece" 19, gd "edge" 20, gd "own_rank" 21, gd "joined_over" 22,
  gd "stands_alone" 23, gd "last_at" 27, gd "longer_lasts" 28, gd "first_at" 29,
  gd "lasts" 30, gd "firsts" 31, gd "read_on" 32, gd "read_back" 33,
  gd "is_sign" 39, gd "look_at_signs" 40, gd "is_row" 41, gd "_law_cell_at" 44,
  gd "_law_numbers" 45, gd "_law_signs" 46, gd "_law_rows" 47, gd "_law_table" 48,
  gd "_law_cut" 49, gd "_law_beside" 50, gd "_law_longer" 51, gd "law" 52,
  md "Table" "__init__" "Table.__init__" 42 0, md "Table" "signs" "Table.signs" 42 1, md "Table" "rows" "Table.rows" 42 2, md "Table" "pieces" "Table.pieces" 42 3,
  md "Table" "which" "Table.which" 42 4, md "Table" "parts" "Table.parts" 42 6, md "Table" "rank" "Table.rank" 42 7, md "Table" "longest" "Table.longest" 42 8,
  md "Follows" "__init__" "Follows.__init__" 25 0, md "Follows" "table" "Follows.table" 25 1, md "Follows" "is_alone" "Follows.is_alone" 25 2, md "Follows" "fits" "Follows.fits" 25 3,
  md "Follows" "after" "Follows.after" 25 5]
def fa : List He.Fa := [.glo "what_is_wrong", .glo "is_whole", .glo "look_at_text", .glo "look_at_row",
  .glo "joined_row", .glo "signs_of", .glo "swept_from", .glo "swept",
  .glo "look_at_piece", .glo "edge", .glo "own_rank", .glo "joined_over",
  .glo "stands_alone", .glo "last_at", .glo "longer_lasts", .glo "first_at",
  .glo "lasts", .glo "firsts", .glo "read_on", .glo "read_back",
  .glo "is_sign", .glo "look_at_signs", .glo "is_row", .glo "_law_cell_at",
  .glo "_law_numbers", .glo "_law_signs", .glo "_law_rows", .glo "_law_table",
  .glo "_law_cut", .glo "_law_beside", .glo "_law_longer", .glo "law",
  .glo "Table", .glo "Follows", .free "enumerate", .free "isinstance",
  .free "len", .free "list", .free "max", .free "min",
  .free "range", .free "str", .free "int", .free "bool",
  .free "tuple", .str "SIGNS" signsText, .int "MOST_SIGNS" 12, .int "MOST_ROWS" 24,
  .int "MOST_LENGTH" 16, .cls "Table", .mkr "Table", .noat "Table" "kept_signs",
  .noat "Table" "by_text", .noat "Table" "by_pair", .noat "Table" "kept_rows", .noat "Table" "kept_pieces",
  .cls "Follows", .mkr "Follows", .noat "Follows" "kept_table", .noat "Follows" "kept_alone",
  .noat "Follows" "kept_truths", .meth "Table" "signs", .meth "Table" "rows", .meth "Table" "pieces",
  .meth "Table" "which", .meth "Table" "parts", .meth "Table" "rank", .meth "Table" "longest",
  .meth "Follows" "table", .meth "Follows" "is_alone", .meth "Follows" "fits", .meth "Follows" "after"]
def loose1 : List Str := ["JoinError", "NoTable", "NoSign", "NoPiece", "NoNumber", "NoPlace",
  "what_is_wrong", "is_whole", "look_at_text", "look_at_row", "joined_row", "signs_of",
  "swept_from", "swept", "look_at_piece", "edge", "own_rank", "joined_over",
  "stands_alone", "Follows", "last_at", "longer_lasts", "first_at", "lasts",
  "firsts"]
def loose2 : List Str := ["read_on", "read_back", "SIGNS", "MOST_SIGNS", "MOST_ROWS", "MOST_LENGTH",
  "is_sign", "look_at_signs", "is_row", "Table", "_law_cell_at", "_law_numbers",
  "_law_signs", "_law_rows", "_law_table", "_law_cut", "_law_beside", "_law_longer"]
abbrev RR : PySem.W.OpenRow := PySem.W.OpenLaw.row PySem.Challenge.rw_joinranks_k97_whole_rows_made_by_neighbo
abbrev hk : PySem.W.Hook := He.hookD 5 fa fn
def ob (s : PySem.W.SharedT) : He.AlD := He.obsDG 5 fa fn (HandSHeadRun.getT s)
theorem ob_eq (s : PySem.W.SharedT) : ob s = hk.obs s.abs := He.obsDG_eq (HandSHeadRun.getT_eq s)
theorem run (w : World) : HandSHeadRun.RunEq RR (PySem.W.view RR.prog [52]) hk ob 4000 (loose1 ++ loose2) w := by
  intro os
  kernel_rfl
section
variable {K : PySem.W.Frag} {h : Heap} {mg : Str → Option Value}
theorem here_of (X : K.In h) (G : h.Ns mainGlobals mg) (c : He.SaysD fa fn K) (i j n : Nat) (x : Str) (e1 : fn[i]? = some (gd x n)) (e2 : fa[j]? = some (.glo x)) : Here K mg x (top n) := by
  obtain ⟨fd, F⟩ := c.def_ i e1
  exact ⟨He.ga K x, fd, He5.fun_of F, He.glo_ok X G (c.fact j e2)⟩
theorem hereM_of (c : He.SaysD fa fn K) (i j l n k : Nat) (C m q : Str) (e1 : fn[i]? = some (md C m q n k)) (e2 : fa[j]? = some (.cls C)) (e3 : fa[l]? = some (.meth C m)) : HereM K (He.ga K C) m q (inClass (top n) k) := by
  obtain ⟨fd, F⟩ := c.def_ i e1
  exact ⟨He.ma K (He.ga K C) m, fd, He5.fun_of F, He.cls_ok (c.fact j e2), He.meth_ok (c.fact l e3)⟩
theorem hereI_of (X : K.In h) (G : h.Ns mainGlobals mg) (c : He.SaysD fa fn K) (i j l n k : Nat) (C q : Str) (e1 : fn[i]? = some (md C "__init__" q n k)) (e2 : fa[j]? = some (.mkr C)) (e3 : fa[l]? = some (.glo C)) : HereI K mg C (He.ga K C) q (inClass (top n) k) := by
  obtain ⟨fd, F⟩ := c.def_ i e1
  exact ⟨He.ma K (He.ga K C) "__init__", fd, He5.fun_of F, He.mkr_ok (c.fact j e2), He.glo_ok X G (c.fact l e3)⟩
theorem txt_of (X : K.In h) (G : h.Ns mainGlobals mg) (c : He.SaysD fa fn K) : Txt K mg (He.ga K "Table") (He.ga K "Follows") := by
  refine ⟨He.cls_ok (c.fact 49 (f := .cls "Table") rfl), He.cls_ok (c.fact 56 (f := .cls "Follows") rfl), ⟨He.noat_ok (c.fact 51 (f := .noat "Table" "kept_signs") rfl), He.noat_ok (c.fact 52 (f := .noat "Table" "by_text") rfl), He.noat_ok (c.fact 53 (f := .noat "Table" "by_pair") rfl), He.noat_ok (c.fact 54 (f := .noat "Table" "kept_rows") rfl), He.noat_ok (c.fact 55 (f := .noat "Table" "kept_pieces") rfl)⟩, ⟨He.noat_ok (c.fact 58 (f := .noat "Follows" "kept_table") rfl), He.noat_ok (c.fact 59 (f := .noat "Follows" "kept_alone") rfl), He.noat_ok (c.fact 60 (f := .noat "Follows" "kept_truths") rfl)⟩, He.free_ok X G (c.fact 34 (f := .free "enumerate") rfl), He.free_ok X G (c.fact 35 (f := .free "isinstance") rfl), He.free_ok X G (c.fact 36 (f := .free "len") rfl), He.free_ok X G (c.fact 37 (f := .free "list") rfl), He.free_ok X G (c.fact 38 (f := .free "max") rfl), He.free_ok X G (c.fact 39 (f := .free "min") rfl), He.free_ok X G (c.fact 40 (f := .free "range") rfl), He.free_ok X G (c.fact 41 (f := .free "str") rfl), He.free_ok X G (c.fact 42 (f := .free "int") rfl), He.free_ok X G (c.fact 43 (f := .free "bool") rfl), He.free_ok X G (c.fact 44 (f := .free "tuple") rfl), ?_, ?_, ?_, ?_⟩
  · obtain ⟨t, e⟩ := He.str_ok X G (c.fact 45 (f := .str "SIGNS" signsText) rfl)
    exact ⟨_, e, t, rfl⟩
  · obtain ⟨t, e⟩ := He.int_ok X G (c.fact 46 (f := .int "MOST_SIGNS" 12) rfl)
    exact ⟨_, e, t, rfl⟩
  · obtain ⟨t, e⟩ := He.int_ok X G (c.fact 47 (f := .int "MOST_ROWS" 24) rfl)
    exact ⟨_, e, t, rfl⟩
  · obtain ⟨t, e⟩ := He.int_ok X G (c.fact 48 (f := .int "MOST_LENGTH" 16) rfl)
    exact ⟨_, e, t, rfl⟩
theorem facts {P : Program} {w : World} {f : Addr} (X : K.In h) (G : h.Ns mainGlobals mg) (hfa : mg ("law" : Str) = some (.ref f)) (c : He.SaysD fa fn K) :
    ∃ fd : FuncData, (∀ (s : Shared) (v : Value), BindsTo s fd ⟨[v], []⟩ [("_law_script", v)]) ∧ ∀ base : Heap, K.In base → base.Ns mainGlobals mg → FnOk P w K mg base CX0 24 f fd ["_law_script"] (spLaw K) := by
  obtain ⟨fd, F⟩ := c.def_ 31 (d := gd "law" 52) rfl
  have e := hfa.symm.trans (He.glo_ok X G (c.fact 31 (f := .glo "law") rfl))
  cases e
  have b := FunD.bindsA (ps := ["_law_script"]) F fun _ _ _ _ _ _ us hl => match us, hl with | [_], _ => rfl
  have T := txt_of X G c
  exact ⟨fd, fun s v => b s [v] rfl, fun base _ _ => chain T
    (hereM_of c 33 49 61 42 1 "Table" "signs" "Table.signs" rfl rfl rfl)
    (hereM_of c 34 49 62 42 2 "Table" "rows" "Table.rows" rfl rfl rfl)
    (hereM_of c 35 49 63 42 3 "Table" "pieces" "Table.pieces" rfl rfl rfl)
    (hereM_of c 36 49 64 42 4 "Table" "which" "Table.which" rfl rfl rfl)
    (hereM_of c 37 49 65 42 6 "Table" "parts" "Table.parts" rfl rfl rfl)
    (hereM_of c 38 49 66 42 7 "Table" "rank" "Table.rank" rfl rfl rfl)
    (here_of X G c 1 1 10 "is_whole" rfl rfl)
    (here_of X G c 20 20 39 "is_sign" rfl rfl)
    (here_of X G c 22 22 41 "is_row" rfl rfl)
    (here_of X G c 21 21 40 "look_at_signs" rfl rfl)
    (hereM_of c 39 49 67 42 8 "Table" "longest" "Table.longest" rfl rfl rfl)
    (hereI_of X G c 32 50 32 42 0 "Table" "Table.__init__" rfl rfl rfl)
    (here_of X G c 2 2 12 "look_at_text" rfl rfl)
    (here_of X G c 3 3 13 "look_at_row" rfl rfl)
    (here_of X G c 4 4 14 "joined_row" rfl rfl)
    (here_of X G c 5 5 15 "signs_of" rfl rfl)
    (here_of X G c 6 6 16 "swept_from" rfl rfl)
    (here_of X G c 7 7 17 "swept" rfl rfl)
    (here_of X G c 8 8 19 "look_at_piece" rfl rfl)
    (here_of X G c 10 10 21 "own_rank" rfl rfl)
    (here_of X G c 9 9 20 "edge" rfl rfl)
    (here_of X G c 11 11 22 "joined_over" rfl rfl)
    (here_of X G c 12 12 23 "stands_alone" rfl rfl)
    (hereI_of X G c 40 57 33 25 0 "Follows" "Follows.__init__" rfl rfl rfl)
    (hereM_of c 41 56 68 25 1 "Follows" "table" "Follows.table" rfl rfl rfl)
    (hereM_of c 42 56 69 25 2 "Follows" "is_alone" "Follows.is_alone" rfl rfl rfl)
    (hereM_of c 43 56 70 25 3 "Follows" "fits" "Follows.fits" rfl rfl rfl)
    (hereM_of c 44 56 71 25 5 "Follows" "after" "Follows.after" rfl rfl rfl)
    (here_of X G c 0 0 8 "what_is_wrong" rfl rfl)
    (here_of X G c 13 13 27 "last_at" rfl rfl)
    (here_of X G c 15 15 29 "first_at" rfl rfl)
    (here_of X G c 14 14 28 "longer_lasts" rfl rfl)
    (here_of X G c 16 16 30 "lasts" rfl rfl)
    (here_of X G c 17 17 31 "firsts" rfl rfl)
    (here_of X G c 18 18 32 "read_on" rfl rfl)
    (here_of X G c 19 19 33 "read_back" rfl rfl)
    (here_of X G c 23 23 44 "_law_cell_at" rfl rfl)
    (here_of X G c 24 24 45 "_law_numbers" rfl rfl)
    (here_of X G c 25 25 46 "_law_signs" rfl rfl)
    (here_of X G c 26 26 47 "_law_rows" rfl rfl)
    (here_of X G c 27 27 48 "_law_table" rfl rfl)
    (here_of X G c 28 28 49 "_law_cut" rfl rfl)
    (here_of X G c 29 29 50 "_law_beside" rfl rfl)
    (here_of X G c 30 30 51 "_law_longer" rfl rfl)
    (He5.fun_of F)⟩
end
end JR
open PySem PySem.W PySem.Calls PyProof.Rows
theorem PySem.Challenge.cw_joinranks_k97_whole_rows_made_by_neighbo_holds : PySem.Challenge.rw_joinranks_k97_whole_rows_made_by_neighbo.Holds := by
  w_on; o_law
  refine HandSHeadRun.head_any (r := OpenLaw.row PySem.Challenge.rw_joinranks_k97_whole_rows_made_by_neighbo) (q := view (OpenLaw.row PySem.Challenge.rw_joinranks_k97_whole_rows_made_by_neighbo).prog [52]) (H := JR.hk) (ob := JR.ob) (M := 4000)
    (loose := JR.loose1 ++ JR.loose2) (d := HandSHeadRun.topDef (OpenLaw.row PySem.Challenge.rw_joinranks_k97_whole_rows_made_by_neighbo).prog 52) (kwd := []) JR.ob_eq
    (by kernel_rfl) (fun s => by kernel_rfl) JR.run (by kernel_rfl) (by kernel_rfl) (by kernel_rfl) (by rfl) (by first | assumption | decide +kernel) (by decide +kernel)
    ⟨rfl, rfl, rfl, rfl, rfl, by decide +kernel⟩ ?hw ?hc
  case hw => w_witness2
  case hc =>
    refine L2.walk_ofE (l := PySem.Challenge.rw_joinranks_k97_whole_rows_made_by_neighbo) (n := 63) (k := 24) (x := "_law_script") (CX := L2.CX0) rfl (by decide) (by kernel_rfl) ⟨rfl, by decide, by decide⟩ ?F (fun _ _ _ _ z => z)
    intro w mg fa h Y G hmg0
    obtain ⟨K, KX, c⟩ := Y
    have hmg : mg ("law" : PySem.Str) = some (.ref fa) := by
      have e : (HandSHeadRun.topDef (OpenLaw.row PySem.Challenge.rw_joinranks_k97_whole_rows_made_by_neighbo).prog 52).name = ("law" : PySem.Str) := by kernel_rfl
      rw [← e]
      exact hmg0
    obtain ⟨fd, hb, hF⟩ := JR.facts (P := (PySem.Challenge.rw_joinranks_k97_whole_rows_made_by_neighbo).prog) (w := w) KX G hmg c
    exact ⟨K, fd, JR.spLaw K, KX, hb, fun H a ns hl _ hS => ⟨a, ns, rfl, hS, hl, fun _ => rfl⟩, hF⟩
