import PyProof.Rows.All
import Wide.All
import OpenK.AllK
import Wide.FinOn
import KE.KStateDown
import Lean
import HandS.Base
import HandS.Call
import HandS.Ends
import HandS.More
import HandS.Words
import HandS.WordsExc
import HandS.Defaults
import HandS.Head0
import HandS.Head1
import HandS.Head2
import HandS.HeadEnd
import HandS.HeadHook1
import HandS.HeadHook2
import PySem.Challenge.RW_leftwithout_k29_whole_next_orders_and_st
import HandS.ForExc
import HandS.ForMost
import HandS.Zip
import HandS.TupAny
import HandS.Deep
import HandS.Conv
import HandS.IsInst
import HandS.DictComp
import HandS.SetFor
import HandS.SortInts
import HandS.Sort
import HandS.Wide
import HandS.Flow
import HandS.ExcIs
import HandS.Small
import HandS.RevRange
import HandS.Walk
import KE.KIndexOf
import KE.GoesEnum
import KE.GoesMore
import HandS.SortRule
import HandS.Style
/-! text M1 -/
/-! The mathematics, without any program: seats, outcomes, arrows. -/
namespace Lw
abbrev Gs := List (Nat × Nat)
/-- guest k beside the taken ones -/
def seat (gs : Gs) (tk : List (Option Nat)) (k : Nat) : Option Nat :=
  if some (gs.getD k (0, 0)).1 ∈ tk then (if some (gs.getD k (0, 0)).2 ∈ tk then none else some (gs.getD k (0, 0)).2) else some (gs.getD k (0, 0)).1
/-- what the guests of p take, one by one, behind acc -/
def goes (gs : Gs) : List (Option Nat) → List Nat → List (Option Nat)
  | acc, [] => acc
  | acc, k :: p => goes gs (acc ++ [seat gs acc k]) p
abbrev taken (gs : Gs) (p : List Nat) : List (Option Nat) := goes gs [] p
/-- pairs laid into a list by place -/
def lay (T : List (Option Nat)) (es : List (Nat × Option Nat)) : List (Option Nat) := es.foldl (fun T e => T.set e.1 e.2) T
def outc (gs : Gs) (p : List Nat) : List (Option Nat) := lay (List.replicate gs.length none) (p.zip (taken gs p))

theorem goes_append (gs : Gs) : ∀ (p q : List Nat) (acc : List (Option Nat)), goes gs acc (p ++ q) = goes gs (goes gs acc p) q
  | [], _, _ => rfl
  | k :: p, q, acc => by
    show goes gs (acc ++ [seat gs acc k]) (p ++ q) = goes gs (goes gs (acc ++ [seat gs acc k]) p) q
    exact goes_append gs p q _
theorem goes_length (gs : Gs) : ∀ (p : List Nat) (acc : List (Option Nat)), (goes gs acc p).length = acc.length + p.length
  | [], _ => rfl
  | k :: p, acc => by
    show (goes gs (acc ++ [seat gs acc k]) p).length = _
    rw [goes_length gs p]
    simp only [List.length_append, List.length_cons, List.length_nil]
    omega
theorem goes_prefix (gs : Gs) : ∀ (p : List Nat) (acc : List (Option Nat)), ∃ r, goes gs acc p = acc ++ r ∧ r.length = p.length
  | [], acc => ⟨[], by simp [goes], rfl⟩
  | k :: p, acc => by
    obtain ⟨r, e, l⟩ := goes_prefix gs p (acc ++ [seat gs acc k])
    exact ⟨seat gs acc k :: r, by show goes gs (acc ++ [seat gs acc k]) p = _; rw [e]; simp, by simp [l]⟩
theorem taken_snoc (gs : Gs) (p : List Nat) (k : Nat) : taken gs (p ++ [k]) = taken gs p ++ [seat gs (taken gs p) k] := by
  unfold taken
  rw [goes_append]
  rfl
theorem lay_length : ∀ (es : List (Nat × Option Nat)) (T : List (Option Nat)), (lay T es).length = T.length
  | [], _ => rfl
  | e :: es, T => by
    show (lay (T.set e.1 e.2) es).length = _
    rw [lay_length es, List.length_set]
theorem lay_append (T : List (Option Nat)) (a b : List (Nat × Option Nat)) : lay T (a ++ b) = lay (lay T a) b := by
  unfold lay
  rw [List.foldl_append]
theorem lay_out : ∀ (es : List (Nat × Option Nat)) (T : List (Option Nat)) (g : Nat), (∀ e ∈ es, e.1 ≠ g) → (lay T es)[g]? = T[g]?
  | [], _, _, _ => rfl
  | e :: es, T, g, h => by
    show (lay (T.set e.1 e.2) es)[g]? = _
    rw [lay_out es _ g (fun x hx => h x (List.mem_cons_of_mem _ hx)), List.getElem?_set_ne (h e List.mem_cons_self)]
theorem outc_length (gs : Gs) (p : List Nat) : (outc gs p).length = gs.length := by
  unfold outc
  rw [lay_length, List.length_replicate]
/-- the seat of g is what it takes as it comes -/
theorem outc_at {gs : Gs} {a b : List Nat} {g : Nat} (hg : g < gs.length) (hb : g ∉ b) : (outc gs (a ++ g :: b))[g]? = some (seat gs (taken gs a) g) := by
  have e1 : taken gs (a ++ g :: b) = taken gs a ++ (goes gs (taken gs a ++ [seat gs (taken gs a) g]) b).drop (taken gs a).length := by
    unfold taken
    rw [goes_append]
    show goes gs (goes gs [] a ++ [seat gs (goes gs [] a) g]) b = _
    obtain ⟨r, e, _⟩ := goes_prefix gs b (goes gs [] a ++ [seat gs (goes gs [] a) g])
    rw [e, List.append_assoc, List.drop_left]
  obtain ⟨r, e, lr⟩ := goes_prefix gs b (taken gs a ++ [seat gs (taken gs a) g])
  rw [e, List.append_assoc, List.drop_left] at e1
  have la : a.length = (taken gs a).length := by
    unfold taken
    rw [goes_length]
    simp
  unfold outc
  rw [e1, List.zip_append la, lay_append]
  show (lay (lay _ _) ((g, seat gs (taken gs a) g) :: b.zip r))[g]? = _
  show (lay ((lay _ _).set g (seat gs (taken gs a) g)) (b.zip r))[g]? = _
  rw [lay_out _ _ g ?_, List.getElem?_set_self ?_]
  · rw [lay_length, List.length_replicate]
    exact hg
  · rintro ⟨x, y⟩ hx e
    exact hb (e ▸ (List.of_mem_zip hx).1)

/-! ### who is asked, who holds, who is ahead -/
def asked (gs : Gs) (T : List (Option Nat)) (g : Nat) : List Nat :=
  if T.getD g none = some (gs.getD g (0, 0)).1 then [] else if T.getD g none = some (gs.getD g (0, 0)).2 then [(gs.getD g (0, 0)).1] else [(gs.getD g (0, 0)).1, (gs.getD g (0, 0)).2]
def hold (T : List (Option Nat)) (pl : Nat) : Option Nat := T.idxOf? (some pl)
def ahead (gs : Gs) (T : List (Option Nat)) (g : Nat) : List Nat := (asked gs T g).filterMap (hold T)
/-- a web of so many places -/
def WebOk (n : Nat) (gs : Gs) : Prop := ∀ g ∈ gs, g.1 < n ∧ g.2 < n ∧ g.1 ≠ g.2
def PermOf (m : Nat) (p : List Nat) : Prop := p.Nodup ∧ ∀ k, k ∈ p ↔ k < m
theorem PermOf.length {m : Nat} {p : List Nat} (h : PermOf m p) : p.length = m := by
  have e : p.Perm (List.range m) := (List.perm_ext_iff_of_nodup h.1 List.nodup_range).mpr fun k => by rw [h.2 k, List.mem_range]
  rw [e.length_eq, List.length_range]
/-- what an outcome is: T of one seat a guest -/
structure Sound (gs : Gs) (T : List (Option Nat)) : Prop where
  len : T.length = gs.length
  at_ : ∀ g, g < gs.length → T.getD g none = none ∨ T.getD g none = some (gs.getD g (0, 0)).1 ∨ T.getD g none = some (gs.getD g (0, 0)).2
  inj : ∀ i j pl, i < gs.length → j < gs.length → T.getD i none = some pl → T.getD j none = some pl → i = j
  has : ∀ g, g < gs.length → ∀ pl ∈ asked gs T g, ∃ f, f < gs.length ∧ T.getD f none = some pl
theorem getD_of {α : Type} {l : List α} {i : Nat} {x d : α} (h : l[i]? = some x) : l.getD i d = x := by
  rw [List.getD_eq_getElem?_getD, h]
  rfl
theorem of_getD {l : List (Option Nat)} {i : Nat} {x : Nat} (h : l.getD i none = some x) : l[i]? = some (some x) := by
  rw [List.getD_eq_getElem?_getD] at h
  cases e : l[i]? with
  | none => rw [e] at h; cases h
  | some y => rw [e] at h; exact congrArg some h
theorem hold_some {T : List (Option Nat)} {pl f : Nat} (h : hold T pl = some f) : T.getD f none = some pl ∧ f < T.length := by
  unfold hold at h
  have h2 := List.idxOf?_eq_some_iff.mp h
  obtain ⟨hlt, e, _⟩ := h2
  refine ⟨?_, hlt⟩
  rw [List.getD_eq_getElem?_getD, List.getElem?_eq_getElem hlt, e]
  rfl
theorem Sound.hold {gs : Gs} {T : List (Option Nat)} (S : Sound gs T) {pl f : Nat} (hf : f < gs.length) (e : T.getD f none = some pl) : Lw.hold T pl = some f := by
  cases h : Lw.hold T pl with
  | none =>
    unfold Lw.hold at h
    rw [List.idxOf?_eq_none_iff] at h
    exact absurd (List.mem_of_getElem? (of_getD e)) (by simpa using h)
  | some f' =>
    obtain ⟨e', l'⟩ := hold_some h
    rw [S.len] at l'
    rw [S.inj f' f pl l' hf e' e]
theorem mem_ahead {gs : Gs} {T : List (Option Nat)} {g f : Nat} : f ∈ ahead gs T g ↔ ∃ pl ∈ asked gs T g, hold T pl = some f := by
  unfold ahead
  rw [List.mem_filterMap]

/-! ### orders along what is ahead -/
def resp (F : Nat → List Nat) : List Nat → List Nat → Bool
  | _, [] => true
  | w, k :: q => (F k).all (fun f => decide (f ∈ w)) && resp F (w ++ [k]) q
theorem resp_append (F : Nat → List Nat) : ∀ (a b w : List Nat), resp F w (a ++ b) = (resp F w a && resp F (w ++ a) b)
  | [], b, w => by simp [resp]
  | k :: a, b, w => by
    show ((F k).all _ && resp F (w ++ [k]) (a ++ b)) = (((F k).all _ && resp F (w ++ [k]) a) && resp F (w ++ k :: a) b)
    rw [resp_append F a b, Bool.and_assoc, List.append_assoc]
    rfl
theorem resp_at {F : Nat → List Nat} {w a b : List Nat} {g : Nat} (h : resp F w (a ++ g :: b) = true) : ∀ f ∈ F g, f ∈ w ++ a := by
  rw [resp_append, Bool.and_eq_true] at h
  have h2 : ((F g).all (fun f => decide (f ∈ w ++ a)) && resp F (w ++ a ++ [g]) b) = true := h.2
  rw [Bool.and_eq_true] at h2
  intro f hf
  exact of_decide_eq_true (List.all_eq_true.mp h2.1 f hf)
theorem resp_of {F : Nat → List Nat} : ∀ {q w : List Nat}, (∀ a g b, q = a ++ g :: b → ∀ f ∈ F g, f ∈ w ++ a) → resp F w q = true
  | [], _, _ => rfl
  | k :: q, w, h => by
    show ((F k).all (fun f => decide (f ∈ w)) && resp F (w ++ [k]) q) = true
    rw [Bool.and_eq_true]
    refine ⟨List.all_eq_true.mpr fun f hf => decide_eq_true ?_, resp_of fun a g b e f hf => ?_⟩
    · simpa using h [] k q rfl f hf
    · have := h (k :: a) g b (by rw [e]; rfl) f hf
      simpa using this
theorem split_at {p : List Nat} {g : Nat} (hp : p.Nodup) (h : g ∈ p) : ∃ a b, p = a ++ g :: b ∧ g ∉ a ∧ g ∉ b := by
  obtain ⟨a, b, e⟩ := List.append_of_mem h
  subst e
  rw [List.nodup_append] at hp
  refine ⟨a, b, rfl, fun q => hp.2.2 g q g List.mem_cons_self rfl, ?_⟩
  exact (List.nodup_cons.mp hp.2.1).1

section
variable {n : Nat} {gs : Gs} {p : List Nat}
theorem seat_cases (gs : Gs) (tk : List (Option Nat)) (k : Nat) : (some (gs.getD k (0, 0)).1 ∉ tk ∧ seat gs tk k = some (gs.getD k (0, 0)).1) ∨ (some (gs.getD k (0, 0)).1 ∈ tk ∧ some (gs.getD k (0, 0)).2 ∉ tk ∧ seat gs tk k = some (gs.getD k (0, 0)).2) ∨
    (some (gs.getD k (0, 0)).1 ∈ tk ∧ some (gs.getD k (0, 0)).2 ∈ tk ∧ seat gs tk k = none) := by
  unfold seat
  by_cases h1 : some (gs.getD k (0, 0)).1 ∈ tk
  · by_cases h2 : some (gs.getD k (0, 0)).2 ∈ tk
    · exact .inr (.inr ⟨h1, h2, by rw [if_pos h1, if_pos h2]⟩)
    · exact .inr (.inl ⟨h1, h2, by rw [if_pos h1, if_neg h2]⟩)
  · exact .inl ⟨h1, by rw [if_neg h1]⟩
/-- what those of an order have taken so far is what they have in its outcome -/
theorem taken_of (hp : PermOf gs.length p) : ∀ (b a : List Nat), p = a ++ b → taken gs a = a.map fun k => (outc gs p).getD k none := by
  intro b a e
  have key : ∀ (c d : List Nat), a = c ++ d → taken gs c = c.map fun k => (outc gs p).getD k none := by
    intro c
    induction hc : c.length generalizing c with
    | zero =>
      intro d _
      have : c = [] := List.length_eq_zero_iff.mp hc
      subst this
      rfl
    | succ i ih =>
      intro d hd
      obtain ⟨c', k, rfl⟩ : ∃ c' k, c = c' ++ [k] := by
        cases List.eq_nil_or_concat c with
        | inl h => rw [h] at hc; cases hc
        | inr h => obtain ⟨c', k, h⟩ := h; exact ⟨c', k, by simpa using h⟩
      have e2 : p = c' ++ k :: (d ++ b) := by
        rw [e, hd]
        simp
      have hk : k < gs.length := (hp.2 k).mp (by rw [e2]; simp)
      have hn : k ∉ d ++ b := by
        have := hp.1
        rw [e2, List.nodup_append] at this
        exact (List.nodup_cons.mp this.2.1).1
      have hat := outc_at (gs := gs) (a := c') hk hn
      rw [← e2] at hat
      rw [taken_snoc, ih c' (by simpa using hc) (k :: d) (by rw [hd]; simp), List.map_append, List.map_singleton, getD_of hat]
      rw [ih c' (by simpa using hc) (k :: d) (by rw [hd]; simp)]
  exact key a [] (by simp)
theorem outc_seat (hp : PermOf gs.length p) {a b : List Nat} {g : Nat} (e : p = a ++ g :: b) : (outc gs p).getD g none = seat gs (a.map fun k => (outc gs p).getD k none) g := by
  have hk : g < gs.length := (hp.2 g).mp (by rw [e]; simp)
  have hn : g ∉ b := by
    have := hp.1
    rw [e, List.nodup_append] at this
    exact (List.nodup_cons.mp this.2.1).1
  have h1 := outc_at (gs := gs) (a := a) hk hn
  rw [← e] at h1
  rw [← taken_of hp (g :: b) a e]
  exact getD_of h1
theorem sound_outc (hp : PermOf gs.length p) : Sound gs (outc gs p) := by
  have two : ∀ g, g < gs.length → ∃ a b, p = a ++ g :: b ∧ g ∉ a ∧ g ∉ b := fun g hg => split_at hp.1 ((hp.2 g).mpr hg)
  have lt : ∀ a b : List Nat, p = a ++ b → ∀ i ∈ a, i < gs.length := fun a b e i hi => (hp.2 i).mp (by rw [e]; exact List.mem_append_left _ hi)
  have ne : ∀ a g b pl, p = a ++ g :: b → (outc gs p).getD g none = some pl → some pl ∉ a.map fun k => (outc gs p).getD k none := by
    intro a g b pl e h
    rw [outc_seat hp e] at h
    rcases seat_cases gs (a.map fun k => (outc gs p).getD k none) g with ⟨h1, h2⟩ | ⟨h1, h2, h3⟩ | ⟨h1, h2, h3⟩
    · rw [h2] at h
      rw [← h]
      exact h1
    · rw [h3] at h
      rw [← h]
      exact h2
    · rw [h3] at h
      cases h
  refine ⟨outc_length gs p, fun g hg => ?_, fun i j pl hi hj ei ej => ?_, fun g hg pl hpl => ?_⟩
  · obtain ⟨a, b, e, _, _⟩ := two g hg
    rw [outc_seat hp e]
    rcases seat_cases gs (a.map fun k => (outc gs p).getD k none) g with ⟨_, h⟩ | ⟨_, _, h⟩ | ⟨_, _, h⟩
    · exact .inr (.inl h)
    · exact .inr (.inr h)
    · exact .inl h
  · by_cases hij : i = j
    · exact hij
    · exfalso
      obtain ⟨a, b, e, _, _⟩ := two j hj
      have hi' : i ∈ p := (hp.2 i).mpr hi
      rw [e] at hi'
      rcases List.mem_append.mp hi' with h | h
      · exact ne a j b pl e ej (List.mem_map.mpr ⟨i, h, ei⟩)
      · rcases List.mem_cons.mp h with h | h
        · exact hij h
        · obtain ⟨c, d, e2⟩ := List.append_of_mem h
          have e3 : p = (a ++ j :: c) ++ i :: d := by rw [e, e2]; simp
          exact ne _ i d pl e3 ei (List.mem_map.mpr ⟨j, by simp, ej⟩)
  · obtain ⟨a, b, e, _, _⟩ := two g hg
    have h := outc_seat hp e
    have inA : some pl ∈ a.map fun k => (outc gs p).getD k none := by
      unfold asked at hpl
      rcases seat_cases gs (a.map fun k => (outc gs p).getD k none) g with ⟨h1, h2⟩ | ⟨h1, h2, h3⟩ | ⟨h1, h2, h3⟩
      · rw [h, h2, if_pos rfl] at hpl
        cases hpl
      · rw [h, h3] at hpl
        split at hpl
        · cases hpl
        · rw [if_pos rfl] at hpl
          rw [List.mem_singleton] at hpl
          rw [hpl]
          exact h1
      · rw [h, h3] at hpl
        rw [if_neg (by simp), if_neg (by simp)] at hpl
        rcases List.mem_cons.mp hpl with q | q
        · rw [q]; exact h1
        · rw [List.mem_singleton] at q
          rw [q]; exact h2
    obtain ⟨f, hf, ef⟩ := List.mem_map.mp inA
    exact ⟨f, lt a (g :: b) e f hf, ef⟩
/-- an order has the outcome T, sound, exactly if it goes along what is ahead -/
theorem outc_iff {T : List (Option Nat)} (S : Sound gs T) (hp : PermOf gs.length p) : outc gs p = T ↔ resp (ahead gs T) [] p = true := by
  constructor
  · intro e
    refine resp_of fun a g b hs f hf => ?_
    rw [List.nil_append]
    have hg : g < gs.length := (hp.2 g).mp (by rw [hs]; simp)
    obtain ⟨pl, hpl, hh⟩ := mem_ahead.mp hf
    obtain ⟨ef, lf⟩ := hold_some hh
    have hseat := outc_seat hp hs
    rw [e] at hseat
    have inA : some pl ∈ a.map fun k => T.getD k none := by
      unfold asked at hpl
      rcases seat_cases gs (a.map fun k => T.getD k none) g with ⟨h1, h2⟩ | ⟨h1, h2, h3⟩ | ⟨h1, h2, h3⟩
      · rw [hseat, h2, if_pos rfl] at hpl
        cases hpl
      · rw [hseat, h3] at hpl
        split at hpl
        · cases hpl
        · rw [if_pos rfl, List.mem_singleton] at hpl
          rw [hpl]
          exact h1
      · rw [hseat, h3] at hpl
        rw [if_neg (by simp), if_neg (by simp)] at hpl
        rcases List.mem_cons.mp hpl with q | q
        · rw [q]; exact h1
        · rw [List.mem_singleton] at q
          rw [q]; exact h2
    obtain ⟨i, hi, ei⟩ := List.mem_map.mp inA
    have li : i < gs.length := (hp.2 i).mp (by rw [hs]; exact List.mem_append_left _ hi)
    have lf' : f < gs.length := by rw [← S.len]; exact lf
    rw [S.inj f i pl lf' li ef ei]
    exact hi
  · intro hr
    have key : ∀ (q a : List Nat), p = a ++ q → taken gs a = a.map (fun k => T.getD k none) → taken gs (a ++ q) = (a ++ q).map fun k => T.getD k none := by
      intro q
      induction q with
      | nil =>
        intro a _ h
        rw [List.append_nil]
        exact h
      | cons k q ih =>
        intro a e h
        have hk : k < gs.length := (hp.2 k).mp (by rw [e]; simp)
        have hka : k ∉ a := by
          intro hm
          have := hp.1
          rw [e, List.nodup_append] at this
          exact this.2.2 k hm k List.mem_cons_self rfl
        have hF : ∀ f ∈ ahead gs T k, f ∈ a := fun f hf => by
          have := resp_at (w := []) (a := a) (g := k) (b := q) (by rw [← e]; exact hr) f hf
          simpa using this
        have here : ∀ pl, T.getD k none = some pl → some pl ∉ a.map fun k => T.getD k none := fun pl hpl hm => by
          obtain ⟨i, hi, ei⟩ := List.mem_map.mp hm
          have li : i < gs.length := (hp.2 i).mp (by rw [e]; exact List.mem_append_left _ hi)
          exact hka (S.inj i k pl li hk ei hpl ▸ hi)
        have there : ∀ pl ∈ asked gs T k, some pl ∈ a.map fun k => T.getD k none := fun pl hpl => by
          obtain ⟨f, lf, ef⟩ := S.has k hk pl hpl
          exact List.mem_map.mpr ⟨f, hF f (mem_ahead.mpr ⟨pl, hpl, S.hold lf ef⟩), ef⟩
        have hs : seat gs (a.map fun k => T.getD k none) k = T.getD k none := by
          unfold seat
          by_cases h1 : T.getD k none = some (gs.getD k (0, 0)).1
          · rw [if_neg (here _ h1), h1]
          · by_cases h2 : T.getD k none = some (gs.getD k (0, 0)).2
            · have t := there (gs.getD k (0, 0)).1 (by unfold asked; rw [if_neg h1, if_pos h2]; simp)
              rw [if_pos t, if_neg (here _ h2), h2]
            · have t1 := there (gs.getD k (0, 0)).1 (by unfold asked; rw [if_neg h1, if_neg h2]; simp)
              have t2 := there (gs.getD k (0, 0)).2 (by unfold asked; rw [if_neg h1, if_neg h2]; simp)
              rw [if_pos t1, if_pos t2]
              rcases S.at_ k hk with h | h | h
              · exact h.symm
              · exact absurd h h1
              · exact absurd h h2
        have := ih (a ++ [k]) (by rw [e]; simp) (by rw [taken_snoc, h, hs]; simp)
        simpa using this
    have tk := key p [] rfl rfl
    rw [List.nil_append] at tk
    refine List.ext_getElem? fun i => ?_
    by_cases hi : i < gs.length
    · obtain ⟨a, b, e, ha, hb⟩ := split_at hp.1 ((hp.2 i).mpr hi)
      have h1 := outc_at (gs := gs) (a := a) hi hb
      rw [← e] at h1
      rw [h1]
      have h2 : taken gs (a ++ [i]) = (a ++ [i]).map fun k => T.getD k none := by
        have hpre : ∀ c d : List Nat, p = c ++ d → taken gs c = c.map fun k => T.getD k none := fun c d hcd => by
          have z := tk
          rw [hcd] at z
          unfold taken at z
          rw [goes_append, List.map_append] at z
          obtain ⟨r, er, lr⟩ := goes_prefix gs d (goes gs [] c)
          rw [er] at z
          exact (List.append_inj z (by rw [goes_length]; simp)).1
        exact hpre _ b (by rw [e]; simp)
      rw [taken_snoc, List.map_append] at h2
      have h3 := (List.append_inj' h2 rfl).2
      rw [List.map_singleton] at h3
      have h4 : seat gs (taken gs a) i = T.getD i none := List.singleton_inj.mp h3
      rw [h4, List.getD_eq_getElem?_getD]
      have hT : i < T.length := by rw [S.len]; exact hi
      rw [List.getElem?_eq_getElem hT]
      rfl
    · rw [List.getElem?_eq_none (by rw [outc_length]; omega), List.getElem?_eq_none (by rw [S.len]; omega)]
end
end Lw
/-! text M2 -/
/-! All orders, ascending; the next one, the one ahead, the least, the greatest. -/
namespace Lw
def cands (m : Nat) (w : List Nat) : List Nat := (List.range m).filter fun k => !decide (k ∈ w)
def perms (m : Nat) : List Nat → Nat → List (List Nat)
  | w, 0 => [w]
  | w, n + 1 => (cands m w).flatMap fun k => perms m (w ++ [k]) n
/-- those left that have nobody ahead of them left -/
def fr (F : Nat → List Nat) (left : List Nat) : List Nat := left.filter fun g => !(F g).any fun o => decide (o ∈ left)
def pick (dir : Bool) (l : List Nat) : Option Nat := if dir then l.head? else l.getLast?
def gone (F : Nat → List Nat) (dir : Bool) : Nat → List Nat → List Nat
  | 0, _ => []
  | n + 1, left => match pick dir (fr F left) with
    | none => []
    | some g => g :: gone F dir n (left.filter fun k => !decide (k = g))
def goods (F : Nat → List Nat) (dir : Bool) (left : List Nat) (now : Nat) : List Nat := (fr F left).filter fun g => !decide (g = now) && (decide (now < g) == dir)
def nxt (F : Nat → List Nat) (m : Nat) (dir : Bool) : List Nat → List Nat → Option (List Nat)
  | _, [] => none
  | w, now :: q => match nxt F m dir (w ++ [now]) q with
    | some r => some r
    | none => (pick dir (goods F dir (cands m w) now)).map fun g => w ++ g :: gone F dir q.length ((cands m w).filter fun k => !decide (k = g))

/-- in L behind x there stands o -/
def Succ {α : Type} (L : List α) (x : α) : Option α → Prop
  | some y => ∃ a b, L = a ++ x :: y :: b
  | none => ∃ a, L = a ++ [x]
section
variable {α : Type} {L : List α} {x : α} {o : Option α}
theorem Succ.more {A B : List α} (h : Succ L x o) : Succ (A ++ (L ++ B)) x (o.or B.head?) := by
  cases o with
  | some y =>
    obtain ⟨a, b, e⟩ := h
    exact ⟨A ++ a, b ++ B, by rw [e]; simp⟩
  | none =>
    obtain ⟨a, e⟩ := h
    rw [Option.none_or]
    cases B with
    | nil => exact ⟨A ++ a, by rw [e]; simp⟩
    | cons y B => exact ⟨A ++ a, B, by rw [e]; simp⟩
theorem Succ.next (h : Succ L x o) (nd : L.Nodup) {k : Nat} (hk : L[k]? = some x) : L[k + 1]? = o := by
  have same : ∀ {a r : List α}, L = a ++ x :: r → k = a.length := by
    intro a r e
    have h1 : L[a.length]? = some x := by rw [e]; simp
    obtain ⟨l1, e1⟩ := List.getElem?_eq_some_iff.mp hk
    exact (List.getElem?_inj l1 nd).mp (hk.trans h1.symm)
  cases o with
  | some y =>
    obtain ⟨a, b, e⟩ := h
    rw [same e, e]
    simp
  | none =>
    obtain ⟨a, e⟩ := h
    rw [same (r := []) e, e]
    simp
end
theorem head_flatMap {α β : Type} {B : α → List β} : ∀ {l : List α}, (∀ x ∈ l, B x ≠ []) → (l.flatMap B).head? = l.head?.bind fun x => (B x).head?
  | [], _ => rfl
  | x :: l, h => by
    rw [List.flatMap_cons]
    cases e : B x with
    | nil => exact absurd e (h x List.mem_cons_self)
    | cons y r => simp [e]
theorem reverse_flatMap {α β : Type} {B : α → List β} : ∀ l : List α, (l.flatMap B).reverse = l.reverse.flatMap fun x => (B x).reverse
  | [] => rfl
  | x :: l => by
    rw [List.flatMap_cons, List.reverse_append, reverse_flatMap l, List.reverse_cons, List.flatMap_append]
    simp
def di {α : Type} (dir : Bool) (l : List α) : List α := if dir then l else l.reverse
theorem di_flatMap {α β : Type} (dir : Bool) {B : α → List β} (l : List α) : di dir (l.flatMap B) = (di dir l).flatMap fun x => di dir (B x) := by
  cases dir with
  | true => rfl
  | false => exact reverse_flatMap l
theorem mem_di {α : Type} {dir : Bool} {l : List α} {x : α} : x ∈ di dir l ↔ x ∈ l := by
  cases dir with
  | true => exact Iff.rfl
  | false => exact List.mem_reverse
theorem pick_di (dir : Bool) (l : List Nat) : pick dir l = (di dir l).head? := by
  cases dir with
  | true => rfl
  | false => exact (List.head?_reverse).symm

section
variable {m : Nat} {F : Nat → List Nat}
theorem mem_cands {w : List Nat} {k : Nat} : k ∈ cands m w ↔ k < m ∧ k ∉ w := by
  unfold cands
  rw [List.mem_filter, List.mem_range]
  simp
theorem cands_snoc (w : List Nat) (g : Nat) : (cands m w).filter (fun k => !decide (k = g)) = cands m (w ++ [g]) := by
  unfold cands
  rw [List.filter_filter]
  refine List.filter_congr fun k _ => ?_
  by_cases h1 : k = g <;> by_cases h2 : k ∈ w <;> simp [h1, h2]
theorem cands_lt (w : List Nat) : (cands m w).Pairwise (· < ·) := List.Pairwise.sublist List.filter_sublist List.pairwise_lt_range
theorem fr_lt (w : List Nat) : (fr F (cands m w)).Pairwise (· < ·) := List.Pairwise.sublist List.filter_sublist (cands_lt w)
theorem mem_fr {w : List Nat} {k : Nat} (hF : ∀ g, ∀ f ∈ F g, f < m) : k ∈ fr F (cands m w) ↔ k < m ∧ k ∉ w ∧ ∀ f ∈ F k, f ∈ w := by
  unfold fr
  rw [List.mem_filter, mem_cands]
  constructor
  · rintro ⟨⟨h1, h2⟩, h3⟩
    refine ⟨h1, h2, fun f hf => ?_⟩
    by_cases hw : f ∈ w
    · exact hw
    · exfalso
      have : (F k).any (fun o => decide (o ∈ cands m w)) = true := List.any_eq_true.mpr ⟨f, hf, decide_eq_true (mem_cands.mpr ⟨hF k f hf, hw⟩)⟩
      rw [this] at h3
      cases h3
  · rintro ⟨h1, h2, h3⟩
    refine ⟨⟨h1, h2⟩, ?_⟩
    have : (F k).any (fun o => decide (o ∈ cands m w)) = false := by
      rw [List.any_eq_false]
      intro f hf hd
      exact (mem_cands.mp (of_decide_eq_true hd)).2 (h3 f hf)
    rw [this]
    rfl
/-- every one of perms begins with w; n more -/
theorem perms_prefix : ∀ {n : Nat} {w p : List Nat}, p ∈ perms m w n → ∃ q, p = w ++ q ∧ q.length = n
  | 0, w, p, h => ⟨[], by simpa [perms] using h, rfl⟩
  | n + 1, w, p, h => by
    obtain ⟨k, _, hk⟩ := List.mem_flatMap.mp (show p ∈ (cands m w).flatMap fun k => perms m (w ++ [k]) n from h)
    obtain ⟨q, e, l⟩ := perms_prefix hk
    exact ⟨k :: q, by rw [e]; simp, by simp [l]⟩
theorem mem_perms : ∀ {n : Nat} {w q : List Nat}, w ++ q ∈ perms m w n ↔ q.length = n ∧ q.Nodup ∧ ∀ k ∈ q, k < m ∧ k ∉ w
  | 0, w, q => by
    constructor
    · intro h
      obtain ⟨q', e, l⟩ := perms_prefix h
      have : q = q' := List.append_cancel_left e
      subst this
      have : q = [] := List.length_eq_zero_iff.mp l
      subst this
      simp
    · rintro ⟨h, _⟩
      have : q = [] := List.length_eq_zero_iff.mp h
      subst this
      simp [perms]
  | n + 1, w, q => by
    constructor
    · intro h
      obtain ⟨k, hk, hp⟩ := List.mem_flatMap.mp (show w ++ q ∈ (cands m w).flatMap fun k => perms m (w ++ [k]) n from h)
      obtain ⟨r, e, _⟩ := perms_prefix hp
      have e2 : q = k :: r := List.append_cancel_left (as := w) (by rw [e]; simp)
      subst e2
      have e3 : w ++ k :: r = (w ++ [k]) ++ r := by simp
      rw [e3] at hp
      obtain ⟨l, nd, hh⟩ := mem_perms.mp hp
      obtain ⟨c1, c2⟩ := mem_cands.mp hk
      refine ⟨by simp [l], List.nodup_cons.mpr ⟨fun hkr => (hh k hkr).2 (by simp), nd⟩, fun x hx => ?_⟩
      rcases List.mem_cons.mp hx with rfl | hx
      · exact ⟨c1, c2⟩
      · exact ⟨(hh x hx).1, fun z => (hh x hx).2 (List.mem_append_left _ z)⟩
    · rintro ⟨l, nd, hh⟩
      cases q with
      | nil => cases l
      | cons k r =>
        refine List.mem_flatMap.mpr ⟨k, mem_cands.mpr (hh k List.mem_cons_self), ?_⟩
        have e3 : w ++ k :: r = (w ++ [k]) ++ r := by simp
        rw [e3]
        obtain ⟨n1, n2⟩ := List.nodup_cons.mp nd
        refine mem_perms.mpr ⟨by simpa using l, n2, fun x hx => ⟨(hh x (List.mem_cons_of_mem _ hx)).1, fun z => ?_⟩⟩
        rcases List.mem_append.mp z with z | z
        · exact (hh x (List.mem_cons_of_mem _ hx)).2 z
        · rw [List.mem_singleton] at z
          subst z
          exact n1 hx
theorem mem_perms0 {p : List Nat} : p ∈ perms m [] m ↔ PermOf m p := by
  rw [show p = [] ++ p from rfl, mem_perms]
  constructor
  · rintro ⟨l, nd, h⟩
    refine ⟨nd, fun k => ⟨fun hk => (h k hk).1, fun hk => ?_⟩⟩
    -- m different ones below m are all
    by_cases hp : k ∈ p
    · exact hp
    · exfalso
      have := List.Nodup.length_le_of_subset (l₁ := k :: p) (l₂ := List.range m) (List.nodup_cons.mpr ⟨hp, nd⟩) fun x hx => by
        rcases List.mem_cons.mp hx with rfl | hx
        · exact List.mem_range.mpr hk
        · exact List.mem_range.mpr (h x hx).1
      rw [List.length_cons, List.length_range] at this
      have l' : p.length = m := l
      omega
  · intro h
    exact ⟨h.length, h.1, fun k hk => ⟨(h.2 k).mp hk, by simp⟩⟩
theorem perms_nodup : ∀ (n : Nat) (w : List Nat), (perms m w n).Nodup
  | 0, w => by simp [perms]
  | n + 1, w => by
    show ((cands m w).flatMap fun k => perms m (w ++ [k]) n).Nodup
    unfold List.Nodup
    rw [List.pairwise_flatMap]
    refine ⟨fun k _ => perms_nodup n (w ++ [k]), List.Pairwise.imp ?_ (cands_lt w)⟩
    intro a b hab x hx y hy e
    obtain ⟨q, e1, _⟩ := perms_prefix hx
    obtain ⟨r, e2, _⟩ := perms_prefix hy
    rw [e1, e2] at e
    have e3 : a :: q = b :: r := List.append_cancel_left (as := w) (by simpa using e)
    have := (List.cons.inj e3).1
    omega
/-- those that go along F -/
def LE (m : Nat) (F : Nat → List Nat) (w : List Nat) (n : Nat) : List (List Nat) := (perms m w n).filter (resp F [])
theorem LE_zero {w : List Nat} (h : resp F [] w = true) : LE m F w 0 = [w] := by
  unfold LE perms
  rw [List.filter_cons_of_pos h]
  rfl
theorem LE_nil {w : List Nat} {k n : Nat} (h : ¬ ∀ f ∈ F k, f ∈ w) : LE m F (w ++ [k]) n = [] := by
  unfold LE
  rw [List.filter_eq_nil_iff]
  intro p hp hr
  obtain ⟨q, e, _⟩ := perms_prefix hp
  rw [e, List.append_assoc] at hr
  refine h fun f hf => ?_
  have := resp_at (w := []) (a := w) (g := k) (b := q) (by simpa using hr) f hf
  simpa using this
theorem flatMap_skip {α β : Type} {B : α → List β} {P : α → Bool} : ∀ l : List α, (∀ x ∈ l, P x = false → B x = []) → l.flatMap B = (l.filter P).flatMap B
  | [], _ => rfl
  | x :: l, h => by
    have ih := flatMap_skip l fun y hy => h y (List.mem_cons_of_mem _ hy)
    by_cases hx : P x = true
    · rw [List.filter_cons_of_pos hx, List.flatMap_cons, List.flatMap_cons, ih]
    · rw [List.filter_cons_of_neg hx, List.flatMap_cons, h x List.mem_cons_self (by simpa using hx), ih, List.nil_append]
theorem LE_succ (hF : ∀ g, ∀ f ∈ F g, f < m) (w : List Nat) (n : Nat) : LE m F w (n + 1) = (fr F (cands m w)).flatMap fun k => LE m F (w ++ [k]) n := by
  have e : LE m F w (n + 1) = (cands m w).flatMap fun k => LE m F (w ++ [k]) n := by
    unfold LE
    show ((cands m w).flatMap fun k => perms m (w ++ [k]) n).filter _ = _
    rw [List.filter_flatMap]
  rw [e]
  unfold fr
  refine flatMap_skip _ fun k hk hx => LE_nil fun hall => ?_
  have : k ∈ fr F (cands m w) := (mem_fr hF).mpr ⟨(mem_cands.mp hk).1, (mem_cands.mp hk).2, hall⟩
  have := (List.mem_filter.mp this).2
  rw [hx] at this
  cases this
/-- w: unlike ones below m, each behind those ahead of it -/
structure Pre (m : Nat) (F : Nat → List Nat) (w : List Nat) : Prop where
  nd : w.Nodup
  lt : ∀ k ∈ w, k < m
  re : resp F [] w = true
/-- somebody can come as long as not all have -/
def Going (m : Nat) (F : Nat → List Nat) : Prop := (∀ g, ∀ f ∈ F g, f < m) ∧ ∃ p, PermOf m p ∧ resp F [] p = true
theorem Pre.snoc (hF : ∀ g, ∀ f ∈ F g, f < m) {w : List Nat} (h : Pre m F w) {k : Nat} (hk : k ∈ fr F (cands m w)) : Pre m F (w ++ [k]) := by
  obtain ⟨h1, h2, h3⟩ := (mem_fr hF).mp hk
  refine ⟨List.nodup_append.mpr ⟨h.nd, List.nodup_cons.mpr ⟨by simp, List.nodup_nil⟩, fun a ha b hb => ?_⟩, fun x hx => ?_, ?_⟩
  · rw [List.mem_singleton] at hb
    subst hb
    exact fun e => h2 (e ▸ ha)
  · rcases List.mem_append.mp hx with hx | hx
    · exact h.lt x hx
    · rw [List.mem_singleton] at hx
      subst hx
      exact h1
  · rw [resp_append, h.re, Bool.true_and]
    show ((F k).all (fun f => decide (f ∈ [] ++ w)) && true) = true
    rw [Bool.and_true, List.all_eq_true]
    exact fun f hf => decide_eq_true (h3 f hf)
theorem Pre.left (h : Going m F) {w : List Nat} (hw : Pre m F w) (hl : w.length < m) : fr F (cands m w) ≠ [] := by
  obtain ⟨hF, p, hp, hr⟩ := h
  have ex : ∃ k ∈ p, k ∉ w := by
    by_cases hall : ∀ k ∈ p, k ∈ w
    · exfalso
      have := List.Nodup.length_le_of_subset hp.1 hall
      rw [hp.length] at this
      omega
    · have ⟨k, hk⟩ := Classical.not_forall.mp hall
      exact ⟨k, (Classical.not_imp.mp hk).1, (Classical.not_imp.mp hk).2⟩
  have first : ∀ q a : List Nat, p = a ++ q → (∀ x ∈ a, x ∈ w) → (∃ k ∈ q, k ∉ w) → ∃ a k b, p = a ++ k :: b ∧ (∀ x ∈ a, x ∈ w) ∧ k ∉ w := by
    intro q
    induction q with
    | nil => rintro a _ _ ⟨k, hk, _⟩; cases hk
    | cons k q ih =>
      intro a e ha hex
      by_cases hk : k ∈ w
      · refine ih (a ++ [k]) (by rw [e]; simp) (fun x hx => ?_) ?_
        · rcases List.mem_append.mp hx with hx | hx
          · exact ha x hx
          · rw [List.mem_singleton] at hx
            subst hx
            exact hk
        · obtain ⟨y, hy, hny⟩ := hex
          rcases List.mem_cons.mp hy with rfl | hy
          · exact absurd hk hny
          · exact ⟨y, hy, hny⟩
      · exact ⟨a, k, q, e, ha, hk⟩
  obtain ⟨a, k, b, e, ha, hk⟩ := first p [] rfl (by simp) ex
  have : k ∈ fr F (cands m w) := (mem_fr hF).mpr ⟨(hp.2 k).mp (by rw [e]; simp), hk, fun f hf => ha f (by
    have := resp_at (w := []) (a := a) (g := k) (b := b) (by rw [← e]; exact hr) f hf
    simpa using this)⟩
  exact List.ne_nil_of_mem this
theorem di_eq_nil {α : Type} {dir : Bool} {l : List α} : di dir l = [] ↔ l = [] := by
  cases dir with
  | true => exact Iff.rfl
  | false => exact List.reverse_eq_nil_iff
/-- the least (the greatest) that begins with w -/
theorem head_LE (h : Going m F) (dir : Bool) : ∀ {n : Nat} {w : List Nat}, Pre m F w → w.length + n = m → (di dir (LE m F w n)).head? = some (w ++ gone F dir n (cands m w))
  | 0, w, hw, _ => by
    rw [LE_zero hw.re]
    have e : di dir [w] = [w] := by cases dir <;> rfl
    rw [e]
    simp [gone]
  | n + 1, w, hw, hl => by
    have hne := hw.left h (by omega)
    have inner : ∀ k ∈ di dir (fr F (cands m w)), (di dir (LE m F (w ++ [k]) n)).head? = some (w ++ [k] ++ gone F dir n (cands m (w ++ [k]))) := fun k hk =>
      head_LE h dir (hw.snoc h.1 (mem_di.mp hk)) (by simp; omega)
    rw [LE_succ h.1, di_flatMap, head_flatMap fun k hk e => by
      have := inner k hk
      rw [e] at this
      cases this]
    show _ = some (w ++ match pick dir (fr F (cands m w)) with
      | none => []
      | some g => g :: gone F dir n ((cands m w).filter fun k => !decide (k = g)))
    rw [pick_di]
    cases e : (di dir (fr F (cands m w))).head? with
    | none => exact absurd (di_eq_nil.mp (List.head?_eq_none_iff.mp e)) hne
    | some g =>
      show (di dir (LE m F (w ++ [g]) n)).head? = _
      rw [inner g (List.mem_of_head? e)]
      show _ = some (w ++ g :: gone F dir n ((cands m w).filter fun k => !decide (k = g)))
      rw [cands_snoc]
      simp
theorem LE_ne (h : Going m F) {n : Nat} {w : List Nat} (hw : Pre m F w) (hl : w.length + n = m) : LE m F w n ≠ [] := fun e => by
  have := head_LE h true hw hl
  rw [e] at this
  cases this
/-- in a rising list those above (below) one of it stand behind it, in the direction -/
theorem split_dir {l : List Nat} (hs : l.Pairwise (· < ·)) {x : Nat} (hx : x ∈ l) (dir : Bool) : ∃ a, di dir l = a ++ x :: di dir (l.filter fun g => !decide (g = x) && (decide (x < g) == dir)) := by
  obtain ⟨a, b, e⟩ := List.append_of_mem hx
  subst e
  rw [List.pairwise_append] at hs
  obtain ⟨ha, hb, hab⟩ := hs
  have hb' := List.pairwise_cons.mp hb
  cases dir with
  | true =>
    refine ⟨a, ?_⟩
    show a ++ x :: b = a ++ x :: (a ++ x :: b).filter _
    congr 2
    rw [List.filter_append, List.filter_cons_of_neg (by simp)]
    have e1 : a.filter (fun g => !decide (g = x) && (decide (x < g) == true)) = [] := by
      rw [List.filter_eq_nil_iff]
      intro g hg
      have := hab g hg x List.mem_cons_self
      simp
      omega
    have e2 : b.filter (fun g => !decide (g = x) && (decide (x < g) == true)) = b := by
      rw [List.filter_eq_self]
      intro g hg
      have := hb'.1 g hg
      simp
      omega
    rw [e1, e2, List.nil_append]
  | false =>
    refine ⟨b.reverse, ?_⟩
    show (a ++ x :: b).reverse = b.reverse ++ x :: ((a ++ x :: b).filter _).reverse
    have e1 : a.filter (fun g => !decide (g = x) && (decide (x < g) == false)) = a := by
      rw [List.filter_eq_self]
      intro g hg
      have := hab g hg x List.mem_cons_self
      simp
      omega
    have e2 : b.filter (fun g => !decide (g = x) && (decide (x < g) == false)) = [] := by
      rw [List.filter_eq_nil_iff]
      intro g hg
      have := hb'.1 g hg
      simp
      omega
    rw [List.filter_append, List.filter_cons_of_neg (by simp), e1, e2]
    simp
/-- the next one in the direction -/
theorem succ_LE (h : Going m F) (dir : Bool) : ∀ (q w : List Nat), Pre m F (w ++ q) → (w ++ q).length = m → Succ (di dir (LE m F w q.length)) (w ++ q) (nxt F m dir w q)
  | [], w, hp, hl => by
    rw [List.append_nil] at hp ⊢
    rw [show ([] : List Nat).length = 0 from rfl, LE_zero hp.re]
    cases dir <;> exact ⟨[], rfl⟩
  | now :: q, w, hp, hl => by
    have e3 : w ++ now :: q = (w ++ [now]) ++ q := by simp
    have hnd := hp.nd
    rw [e3] at hp hl
    have ih := succ_LE h dir q (w ++ [now]) hp hl
    have hpw : Pre m F w := by
      have hre := hp.re
      rw [List.append_assoc, resp_append, Bool.and_eq_true] at hre
      refine ⟨?_, fun k hk => hp.lt k (by simp [hk]), hre.1⟩
      have := hp.nd
      rw [List.append_assoc, List.nodup_append] at this
      exact this.1
    have hnow : now ∈ fr F (cands m w) := by
      refine (mem_fr h.1).mpr ⟨hp.lt now (by simp), ?_, fun f hf => ?_⟩
      · rw [List.nodup_append] at hnd
        exact fun z => hnd.2.2 now z now List.mem_cons_self rfl
      · have := resp_at (w := []) (a := w) (g := now) (b := q) (by rw [e3]; exact hp.re) f hf
        simpa using this
    have hlw : w.length + (q.length + 1) = m := by
      rw [← hl]
      simp only [List.length_append, List.length_cons, List.length_nil]
      omega
    rw [show (now :: q).length = q.length + 1 from rfl, LE_succ h.1, di_flatMap]
    obtain ⟨a, ea⟩ := split_dir (fr_lt w) hnow dir
    rw [ea, List.flatMap_append, List.flatMap_cons, e3]
    have more := Succ.more (A := a.flatMap fun k => di dir (LE m F (w ++ [k]) q.length)) (B := (di dir ((fr F (cands m w)).filter fun g => !decide (g = now) && (decide (now < g) == dir))).flatMap fun k => di dir (LE m F (w ++ [k]) q.length)) ih
    have inner : ∀ k ∈ di dir ((fr F (cands m w)).filter fun g => !decide (g = now) && (decide (now < g) == dir)), (di dir (LE m F (w ++ [k]) q.length)).head? = some (w ++ [k] ++ gone F dir q.length (cands m (w ++ [k]))) := fun k hk =>
      head_LE h dir (hpw.snoc h.1 (List.mem_filter.mp (mem_di.mp hk)).1) (by simp; omega)
    rw [head_flatMap fun k hk e => by
      have := inner k hk
      rw [e] at this
      cases this] at more
    have en : nxt F m dir w (now :: q) = (nxt F m dir (w ++ [now]) q).or ((di dir ((fr F (cands m w)).filter fun g => !decide (g = now) && (decide (now < g) == dir))).head?.bind fun k => (di dir (LE m F (w ++ [k]) q.length)).head?) := by
      show (match nxt F m dir (w ++ [now]) q with
        | some r => some r
        | none => (pick dir (goods F dir (cands m w) now)).map fun g => w ++ g :: gone F dir q.length ((cands m w).filter fun k => !decide (k = g))) = _
      cases nxt F m dir (w ++ [now]) q with
      | some r => rfl
      | none =>
        show (pick dir (goods F dir (cands m w) now)).map _ = _
        rw [pick_di, Option.none_or]
        unfold goods
        cases e : (di dir ((fr F (cands m w)).filter fun g => !decide (g = now) && (decide (now < g) == dir))).head? with
        | none => rfl
        | some g =>
          show some (w ++ g :: gone F dir q.length ((cands m w).filter fun k => !decide (k = g))) = (di dir (LE m F (w ++ [g]) q.length)).head?
          rw [inner g (List.mem_of_head? e), cands_snoc]
          simp
    rw [en]
    exact more
theorem LE_nodup (w : List Nat) (n : Nat) : (LE m F w n).Nodup := List.Pairwise.sublist List.filter_sublist (perms_nodup n w)
/-- all orders that go along F -/
abbrev All (m : Nat) (F : Nat → List Nat) : List (List Nat) := LE m F [] m
theorem mem_All {p : List Nat} : p ∈ All m F ↔ PermOf m p ∧ resp F [] p = true := by
  unfold All LE
  rw [List.mem_filter, mem_perms0]
theorem pre_nil : Pre m F [] := ⟨List.nodup_nil, fun k hk => by simp at hk, rfl⟩
theorem pre_of {p : List Nat} (h : p ∈ All m F) : Pre m F p := by
  obtain ⟨h1, h2⟩ := mem_All.mp h
  exact ⟨h1.1, fun k hk => (h1.2 k).mp hk, h2⟩
theorem All_next (h : Going m F) {k : Nat} {p : List Nat} (hk : (All m F)[k]? = some p) : (All m F)[k + 1]? = nxt F m true [] p := by
  have hp := List.mem_of_getElem? hk
  have := succ_LE h true p [] (pre_of hp) (mem_All.mp hp).1.length
  rw [(mem_All.mp hp).1.length] at this
  exact Succ.next this (LE_nodup [] m) hk
theorem All_ahead (h : Going m F) {k : Nat} {p : List Nat} (hk : (All m F)[k]? = some p) : (if k = 0 then none else (All m F)[k - 1]?) = nxt F m false [] p := by
  have hp := List.mem_of_getElem? hk
  have := succ_LE h false p [] (pre_of hp) (mem_All.mp hp).1.length
  rw [(mem_All.mp hp).1.length] at this
  obtain ⟨hlt, _⟩ := List.getElem?_eq_some_iff.mp hk
  have nd : (All m F).reverse.Nodup := List.pairwise_reverse.mpr (List.Pairwise.imp (fun h => Ne.symm h) (LE_nodup [] m))
  have hr : (All m F).reverse[(All m F).length - 1 - k]? = some p := by
    rw [List.getElem?_reverse (by omega), show (All m F).length - 1 - ((All m F).length - 1 - k) = k by omega]
    exact hk
  have s : (All m F).reverse[(All m F).length - 1 - k + 1]? = nxt F m false [] p := Succ.next this nd hr
  rw [← s]
  by_cases h0 : k = 0
  · rw [if_pos h0, List.getElem?_eq_none (by rw [List.length_reverse]; omega)]
  · rw [if_neg h0, List.getElem?_reverse (by omega), show (All m F).length - 1 - ((All m F).length - 1 - k + 1) = k - 1 by omega]
theorem All_least (h : Going m F) : (All m F).head? = some (gone F true m (List.range m)) := by
  have := head_LE h true (n := m) (w := []) pre_nil (by simp)
  rw [List.nil_append] at this
  have e : cands m [] = List.range m := by
    unfold cands
    rw [List.filter_eq_self]
    intro a _
    simp
  rw [e] at this
  exact this
theorem All_greatest (h : Going m F) : (All m F).getLast? = some (gone F false m (List.range m)) := by
  have := head_LE h false (n := m) (w := []) pre_nil (by simp)
  rw [List.nil_append] at this
  have e : cands m [] = List.range m := by
    unfold cands
    rw [List.filter_eq_self]
    intro a _
    simp
  rw [e] at this
  rw [← List.head?_reverse]
  exact this
end
end Lw
/-! text M3 -/
/-! The orders of an outcome; a step nearer to another one. -/
namespace Lw
/-- the orders of m guests that lead to T, ascending -/
def W (gs : Gs) (T : List (Option Nat)) : List (List Nat) := (perms gs.length [] gs.length).filter fun p => decide (outc gs p = T)
/-- lists of who is right ahead of whom -/
structure FsOk (gs : Gs) (T : List (Option Nat)) (Fs : List (List Nat)) : Prop where
  len : Fs.length = gs.length
  at_ : ∀ g, g < gs.length → ∀ f, f ∈ Fs.getD g [] ↔ f ∈ ahead gs T g
abbrev fOf (Fs : List (List Nat)) : Nat → List Nat := fun g => Fs.getD g []
section
variable {gs : Gs} {T : List (Option Nat)} {Fs : List (List Nat)}
theorem resp_congr {F G : Nat → List Nat} : ∀ {q w : List Nat}, (∀ g ∈ q, ∀ f, f ∈ F g ↔ f ∈ G g) → resp F w q = resp G w q
  | [], _, _ => rfl
  | k :: q, w, h => by
    show ((F k).all _ && resp F (w ++ [k]) q) = ((G k).all _ && resp G (w ++ [k]) q)
    rw [resp_congr fun g hg => h g (List.mem_cons_of_mem _ hg)]
    congr 1
    rw [Bool.eq_iff_iff, List.all_eq_true, List.all_eq_true]
    exact ⟨fun z f hf => z f ((h k List.mem_cons_self f).mpr hf), fun z f hf => z f ((h k List.mem_cons_self f).mp hf)⟩
theorem FsOk.lt (S : Sound gs T) (H : FsOk gs T Fs) : ∀ g, ∀ f ∈ fOf Fs g, f < gs.length := fun g f hf => by
  by_cases hg : g < gs.length
  · obtain ⟨pl, _, h⟩ := mem_ahead.mp ((H.at_ g hg f).mp hf)
    rw [← S.len]
    exact (hold_some h).2
  · have : fOf Fs g = [] := by
      unfold fOf
      rw [List.getD_eq_getElem?_getD, List.getElem?_eq_none (by rw [H.len]; omega)]
      rfl
    rw [this] at hf
    cases hf
theorem FsOk.iff (S : Sound gs T) (H : FsOk gs T Fs) {p : List Nat} (hp : PermOf gs.length p) : outc gs p = T ↔ resp (fOf Fs) [] p = true := by
  rw [outc_iff S hp, resp_congr (F := fOf Fs) (G := ahead gs T) fun g hg f => H.at_ g ((hp.2 g).mp hg) f]
theorem W_All (S : Sound gs T) (H : FsOk gs T Fs) : W gs T = All gs.length (fOf Fs) := by
  unfold W All LE
  refine List.filter_congr fun p hp => ?_
  have := H.iff S (mem_perms0.mp hp)
  by_cases h : outc gs p = T
  · rw [decide_eq_true h, this.mp h]
  · rw [decide_eq_false h]
    cases e : resp (fOf Fs) [] p with
    | true => exact absurd (this.mpr e) h
    | false => rfl
theorem mem_W {p : List Nat} : p ∈ W gs T ↔ PermOf gs.length p ∧ outc gs p = T := by
  unfold W
  rw [List.mem_filter, mem_perms0, decide_eq_true_eq]
theorem going (H : FsOk gs T Fs) {p0 : List Nat} (hp : PermOf gs.length p0) (h0 : outc gs p0 = T) : Going gs.length (fOf Fs) := by
  have S : Sound gs T := h0 ▸ sound_outc hp
  exact ⟨H.lt S, p0, hp, (H.iff S hp).mp h0⟩

/-! ### a step -/
def inv (e p : List Nat) (k : Nat) : Bool := decide (e.idxOf (p.getD (k + 1) 0) < e.idxOf (p.getD k 0))
def stepk (e p : List Nat) : Option Nat := (List.range (p.length - 1)).find? (inv e p)
def swp (p : List Nat) (k : Nat) : List Nat := p.take k ++ [p.getD (k + 1) 0, p.getD k 0] ++ p.drop (k + 2)
theorem idx_at {e : List Nat} (nd : e.Nodup) {i : Nat} (h : i < e.length) : e.idxOf e[i] = i := by
  have hm : e[i] ∈ e := List.getElem_mem h
  have hl := List.idxOf_lt_length_iff.mpr hm
  have := List.getElem_idxOf hl
  exact (List.getElem_inj nd).mp this
theorem idx_inj {e : List Nat} {a b : Nat} (ha : a ∈ e) (hb : b ∈ e) (h : e.idxOf a = e.idxOf b) : a = b := by
  have la := List.idxOf_lt_length_iff.mpr ha
  have lb := List.idxOf_lt_length_iff.mpr hb
  have ea := List.getElem_idxOf la
  have eb := List.getElem_idxOf lb
  rw [← ea, ← eb]
  congr 1
theorem getD_at {l : List Nat} {i : Nat} (h : i < l.length) : l.getD i 0 = l[i] := by
  rw [List.getD_eq_getElem?_getD, List.getElem?_eq_getElem h]
  rfl
theorem stepk_self {p : List Nat} (nd : p.Nodup) : stepk p p = none := by
  unfold stepk
  rw [List.find?_eq_none]
  intro k hk
  rw [List.mem_range] at hk
  unfold inv
  rw [getD_at (by omega), getD_at (by omega), idx_at nd, idx_at nd]
  simp
theorem stepk_none {m : Nat} {p e : List Nat} (hp : PermOf m p) (he : PermOf m e) (h : stepk e p = none) : p = e := by
  unfold stepk at h
  rw [List.find?_eq_none] at h
  have adj : ∀ k, (hk : k + 1 < p.length) → e.idxOf p[k] ≤ e.idxOf p[k + 1] := fun k hk => by
    have := h k (List.mem_range.mpr (by omega))
    unfold inv at this
    rw [getD_at hk, getD_at (by omega)] at this
    simpa using this
  have up : ∀ d i, (h : i + d < p.length) → e.idxOf (p[i]'(by omega)) ≤ e.idxOf p[i + d] := by
    intro d
    induction d with
    | zero => intro i hi; exact Nat.le_refl _
    | succ d ih => intro i hi; exact Nat.le_trans (ih i (by omega)) (adj (i + d) hi)
  have perm : p.Perm e := (List.perm_ext_iff_of_nodup hp.1 he.1).mpr fun k => by rw [hp.2, he.2]
  refine List.Perm.eq_of_pairwise (le := fun a b => e.idxOf a ≤ e.idxOf b) (fun a b ha hb h1 h2 => idx_inj (perm.mem_iff.mp ha) hb (Nat.le_antisymm h1 h2)) ?_ ?_ perm
  · refine List.pairwise_iff_getElem.mpr fun i j hi hj hij => ?_
    have := up (j - i) i (by omega)
    simpa [show i + (j - i) = j by omega] using this
  · refine List.pairwise_iff_getElem.mpr fun i j hi hj hij => ?_
    rw [idx_at he.1, idx_at he.1]
    omega
theorem resp_mem {F : Nat → List Nat} : ∀ {q w v : List Nat}, (∀ f, f ∈ w ↔ f ∈ v) → resp F w q = resp F v q
  | [], _, _, _ => rfl
  | k :: q, w, v, h => by
    show ((F k).all (fun f => decide (f ∈ w)) && resp F (w ++ [k]) q) = ((F k).all (fun f => decide (f ∈ v)) && resp F (v ++ [k]) q)
    rw [resp_mem (w := w ++ [k]) (v := v ++ [k]) fun f => by rw [List.mem_append, List.mem_append, h f]]
    congr 1
    congr 1
    funext f
    exact decide_eq_decide.mpr (h f)
theorem cut_at {p : List Nat} {k : Nat} (h : k + 1 < p.length) : p = p.take k ++ p.getD k 0 :: p.getD (k + 1) 0 :: p.drop (k + 2) := by
  rw [getD_at h, getD_at (by omega), List.getElem_cons_drop, List.getElem_cons_drop, List.take_append_drop]
theorem swp_in {m : Nat} {F : Nat → List Nat} {p e : List Nat} (hp : PermOf m p) (rp : resp F [] p = true) (he : PermOf m e) (re : resp F [] e = true) {k : Nat} (h : stepk e p = some k) : PermOf m (swp p k) ∧ resp F [] (swp p k) = true := by
  obtain ⟨hi, hk, _⟩ := List.find?_range_eq_some.mp h
  rw [List.mem_range] at hk
  have cut := cut_at (p := p) (k := k) (by omega)
  unfold inv at hi
  have hlt := of_decide_eq_true hi
  unfold swp
  generalize p.getD k 0 = x at *
  generalize p.getD (k + 1) 0 = y at *
  generalize p.take k = a at *
  generalize p.drop (k + 2) = b at *
  have perm : (a ++ [y, x] ++ b).Perm p := by
    rw [cut, List.append_assoc]
    exact List.Perm.append_left a (List.Perm.swap x y b)
  have xy : x ∉ F y := fun hx => by
    have ye : y ∈ e := (he.2 y).mpr ((hp.2 y).mp (by rw [cut]; simp))
    obtain ⟨c, d, e1, _, _⟩ := split_at he.1 ye
    have := resp_at (w := []) (a := c) (g := y) (b := d) (by rw [← e1]; exact re) x hx
    rw [List.nil_append] at this
    rw [e1, List.idxOf_append, List.idxOf_append, if_pos this, if_neg (by
      have nd := he.1
      rw [e1, List.nodup_append] at nd
      exact fun z => nd.2.2 y z y List.mem_cons_self rfl)] at hlt
    have := List.idxOf_lt_length_iff.mpr this
    omega
  refine ⟨⟨perm.nodup_iff.mpr hp.1, fun z => by rw [perm.mem_iff, hp.2]⟩, ?_⟩
  have hx : ∀ f ∈ F x, f ∈ a := fun f hf => by
    have := resp_at (w := []) (a := a) (g := x) (b := y :: b) (by rw [← cut]; exact rp) f hf
    simpa using this
  have hy : ∀ f ∈ F y, f ∈ a := fun f hf => by
    have := resp_at (w := []) (a := a ++ [x]) (g := y) (b := b) (by rw [List.append_assoc]; show resp F [] (a ++ x :: y :: b) = true; rw [← cut]; exact rp) f hf
    rw [List.nil_append, List.mem_append, List.mem_singleton] at this
    rcases this with z | z
    · exact z
    · subst z
      exact absurd hf xy
  have ra : resp F [] a = true ∧ resp F (a ++ [x] ++ [y]) b = true := by
    have z := rp
    rw [cut, resp_append, Bool.and_eq_true] at z
    refine ⟨z.1, ?_⟩
    have z2 : ((F x).all (fun f => decide (f ∈ [] ++ a)) && ((F y).all (fun f => decide (f ∈ [] ++ a ++ [x])) && resp F ([] ++ a ++ [x] ++ [y]) b)) = true := z.2
    rw [Bool.and_eq_true, Bool.and_eq_true] at z2
    exact z2.2.2
  rw [List.append_assoc, resp_append, Bool.and_eq_true]
  refine ⟨ra.1, ?_⟩
  show ((F y).all (fun f => decide (f ∈ [] ++ a)) && ((F x).all (fun f => decide (f ∈ [] ++ a ++ [y])) && resp F ([] ++ a ++ [y] ++ [x]) b)) = true
  rw [Bool.and_eq_true, Bool.and_eq_true]
  refine ⟨List.all_eq_true.mpr fun f hf => decide_eq_true (hy f hf), List.all_eq_true.mpr fun f hf => decide_eq_true (List.mem_append_left _ (hx f hf)), ?_⟩
  rw [← ra.2]
  refine resp_mem fun f => ?_
  simp only [List.nil_append, List.mem_append, List.mem_singleton]
  constructor <;> (rintro ((z | z) | z) <;> simp [z])
/-- the step is one of the orders of T, too -/
theorem step_W {p e : List Nat} (hp : p ∈ W gs T) (he : e ∈ W gs T) {k : Nat} (h : stepk e p = some k) : swp p k ∈ W gs T := by
  obtain ⟨p1, p2⟩ := mem_W.mp hp
  obtain ⟨e1, e2⟩ := mem_W.mp he
  have S : Sound gs T := p2 ▸ sound_outc p1
  obtain ⟨q1, q2⟩ := swp_in p1 ((outc_iff S p1).mp p2) e1 ((outc_iff S e1).mp e2) h
  exact mem_W.mpr ⟨q1, (outc_iff S q1).mpr q2⟩
theorem step_some {p e : List Nat} (hp : p ∈ W gs T) (he : e ∈ W gs T) (hne : p ≠ e) : ∃ k, stepk e p = some k ∧ k + 1 < p.length := by
  cases h : stepk e p with
  | none => exact absurd (stepk_none (mem_W.mp hp).1 (mem_W.mp he).1 h) hne
  | some k =>
    obtain ⟨_, hk, _⟩ := List.find?_range_eq_some.mp h
    rw [List.mem_range] at hk
    exact ⟨k, rfl, by omega⟩
end
/-! ### how the law makes them: one guest more at each turn -/
def more (m : Nat) (ws : List (List Nat)) : List (List Nat) := ws.flatMap fun w => (cands m w).map fun k => w ++ [k]
def moreN (m : Nat) : Nat → List (List Nat) → List (List Nat)
  | 0, ws => ws
  | n + 1, ws => moreN m n (more m ws)
theorem moreN_append (m : Nat) : ∀ (n : Nat) (a b : List (List Nat)), moreN m n (a ++ b) = moreN m n a ++ moreN m n b
  | 0, _, _ => rfl
  | n + 1, a, b => by
    show moreN m n (more m (a ++ b)) = moreN m n (more m a) ++ moreN m n (more m b)
    rw [← moreN_append m n]
    unfold more
    rw [List.flatMap_append]
theorem moreN_nil (m : Nat) : ∀ n, moreN m n [] = []
  | 0 => rfl
  | n + 1 => moreN_nil m n
theorem moreN_map (m n : Nat) {α : Type} (f : α → List Nat) : ∀ l : List α, moreN m n (l.map f) = l.flatMap fun x => moreN m n [f x]
  | [] => moreN_nil m n
  | x :: l => by
    rw [List.map_cons, List.flatMap_cons, ← moreN_map m n f l, ← moreN_append]
    rfl
theorem moreN_perms (m : Nat) : ∀ (n : Nat) (w : List Nat), moreN m n [w] = perms m w n
  | 0, _ => rfl
  | n + 1, w => by
    show moreN m n (more m [w]) = (cands m w).flatMap fun k => perms m (w ++ [k]) n
    have e : more m [w] = (cands m w).map fun k => w ++ [k] := by
      unfold more
      rw [List.flatMap_cons, List.flatMap_nil, List.append_nil]
    rw [e, moreN_map]
    congr 1
    funext k
    exact moreN_perms m n (w ++ [k])
theorem moreN_succ (m : Nat) : ∀ (n : Nat) (ws : List (List Nat)), moreN m (n + 1) ws = more m (moreN m n ws)
  | 0, _ => rfl
  | n + 1, ws => by
    show moreN m (n + 1) (more m ws) = more m (moreN m n (more m ws))
    rw [moreN_succ m n]
theorem more_length (m : Nat) : ∀ ws : List (List Nat), (more m ws).length ≤ ws.length * m
  | [] => by simp [more]
  | w :: ws => by
    have ih := more_length m ws
    unfold more at ih ⊢
    rw [List.flatMap_cons, List.length_append, List.length_map, List.length_cons, Nat.add_mul]
    have : (cands m w).length ≤ m := by
      unfold cands
      have := List.length_filter_le (fun k => !decide (k ∈ w)) (List.range m)
      rw [List.length_range] at this
      exact this
    omega
end Lw
/-! text Hd1 -/
set_option Elab.async false
set_option linter.all false
set_option maxRecDepth 100000
set_option maxHeartbeats 0
namespace Lw
open PySem PySem.Spec PyProof.Rows L2

def top (i : Nat) : Stmt := PySem.Challenge.pw_leftwithout_k29_whole_next_orders_and_st.main.body.getD i (.Pass ⟨0, 0, 0, 0⟩)
abbrev s_is_number : Stmt := top 4
abbrev s_is_from : Stmt := top 5
abbrev s_is_within : Stmt := top 6
abbrev s_is_long : Stmt := top 7
abbrev s_tupled : Stmt := top 8
abbrev s_is_guest_of : Stmt := top 10
abbrev s_is_web : Stmt := top 11
abbrev s_sure_web : Stmt := top 12
abbrev s_is_row_in : Stmt := top 14
abbrev s_is_order_in : Stmt := top 15
abbrev s_sure_order : Stmt := top 16
abbrev s_seat_in : Stmt := top 17
abbrev s_seats_in : Stmt := top 18
abbrev s_seated_in : Stmt := top 19
abbrev s_is_taking_in : Stmt := top 21
abbrev s_sure_taking : Stmt := top 22
abbrev s_holders_in : Stmt := top 23
abbrev s_asked_in : Stmt := top 24
abbrev s_arrows_in : Stmt := top 25
abbrev s_lacking_in : Stmt := top 26
abbrev s_order_in : Stmt := top 27
abbrev s_is_outcome_in : Stmt := top 28
abbrev s_sure_outcome : Stmt := top 29
abbrev s_sure_had : Stmt := top 31
abbrev s_firsts_in : Stmt := top 32
abbrev s_free_of : Stmt := top 33
abbrev s_others_left : Stmt := top 34
abbrev s_all_of : Stmt := top 35
abbrev s_sure_its_order : Stmt := top 37
abbrev s_gone_on : Stmt := top 38
abbrev s_beside_order : Stmt := top 39
abbrev s_next_order : Stmt := top 40
abbrev s_order_ahead : Stmt := top 41
abbrev s_least_order : Stmt := top 42
abbrev s_greatest_order : Stmt := top 43
abbrev s_step_to : Stmt := top 44
abbrev s__law_box : Stmt := top 46
abbrev s__law_take : Stmt := top 47
abbrev s__law_cells : Stmt := top 48
abbrev s__law_of : Stmt := top 49
abbrev s__law_pick : Stmt := top 50
abbrev s__law_lists : Stmt := top 51
abbrev s__law_same : Stmt := top 52
abbrev s__law_seat : Stmt := top 53
abbrev s__law_all_runs : Stmt := top 54
abbrev s__law_net : Stmt := top 55
abbrev s__law_walk : Stmt := top 56
abbrev s__law_had : Stmt := top 57
abbrev s__law_heard : Stmt := top 58
abbrev s__law_by_hand_right : Stmt := top 59
abbrev s__law_step : Stmt := top 60
abbrev s__law_right : Stmt := top 61
abbrev s_law : Stmt := top 62
abbrev FnP (K : PySem.W.Frag) (x : Str) (st : Stmt) (f : Addr) (fd : FuncData) : Prop := FunD K x x (defArgs st) (defBody st) (defScope st) [] [] f fd
def d_is_number : He.DefD := ⟨("is_number", none), "is_number", "is_number", defArgs s_is_number, defBody s_is_number, defScope s_is_number, [], []⟩
def d_is_from : He.DefD := ⟨("is_from", none), "is_from", "is_from", defArgs s_is_from, defBody s_is_from, defScope s_is_from, [], []⟩
def d_is_within : He.DefD := ⟨("is_within", none), "is_within", "is_within", defArgs s_is_within, defBody s_is_within, defScope s_is_within, [], []⟩
def d_is_long : He.DefD := ⟨("is_long", none), "is_long", "is_long", defArgs s_is_long, defBody s_is_long, defScope s_is_long, [], []⟩
def d_tupled : He.DefD := ⟨("tupled", none), "tupled", "tupled", defArgs s_tupled, defBody s_tupled, defScope s_tupled, [], []⟩
def d_is_guest_of : He.DefD := ⟨("is_guest_of", none), "is_guest_of", "is_guest_of", defArgs s_is_guest_of, defBody s_is_guest_of, defScope s_is_guest_of, [], []⟩
def d_is_web : He.DefD := ⟨("is_web", none), "is_web", "is_web", defArgs s_is_web, defBody s_is_web, defScope s_is_web, [], []⟩
def d_sure_web : He.DefD := ⟨("sure_web", none), "sure_web", "sure_web", defArgs s_sure_web, defBody s_sure_web, defScope s_sure_web, [], []⟩
def d_is_row_in : He.DefD := ⟨("is_row_in", none), "is_row_in", "is_row_in", defArgs s_is_row_in, defBody s_is_row_in, defScope s_is_row_in, [], []⟩
def d_is_order_in : He.DefD := ⟨("is_order_in", none), "is_order_in", "is_order_in", defArgs s_is_order_in, defBody s_is_order_in, defScope s_is_order_in, [], []⟩
def d_sure_order : He.DefD := ⟨("sure_order", none), "sure_order", "sure_order", defArgs s_sure_order, defBody s_sure_order, defScope s_sure_order, [], []⟩
def d_seat_in : He.DefD := ⟨("seat_in", none), "seat_in", "seat_in", defArgs s_seat_in, defBody s_seat_in, defScope s_seat_in, [], []⟩
def d_seats_in : He.DefD := ⟨("seats_in", none), "seats_in", "seats_in", defArgs s_seats_in, defBody s_seats_in, defScope s_seats_in, [], []⟩
def d_seated_in : He.DefD := ⟨("seated_in", none), "seated_in", "seated_in", defArgs s_seated_in, defBody s_seated_in, defScope s_seated_in, [], []⟩
def d_is_taking_in : He.DefD := ⟨("is_taking_in", none), "is_taking_in", "is_taking_in", defArgs s_is_taking_in, defBody s_is_taking_in, defScope s_is_taking_in, [], []⟩
def d_sure_taking : He.DefD := ⟨("sure_taking", none), "sure_taking", "sure_taking", defArgs s_sure_taking, defBody s_sure_taking, defScope s_sure_taking, [], []⟩
def d_holders_in : He.DefD := ⟨("holders_in", none), "holders_in", "holders_in", defArgs s_holders_in, defBody s_holders_in, defScope s_holders_in, [], []⟩
def d_asked_in : He.DefD := ⟨("asked_in", none), "asked_in", "asked_in", defArgs s_asked_in, defBody s_asked_in, defScope s_asked_in, [], []⟩
def d_arrows_in : He.DefD := ⟨("arrows_in", none), "arrows_in", "arrows_in", defArgs s_arrows_in, defBody s_arrows_in, defScope s_arrows_in, [], []⟩
def d_lacking_in : He.DefD := ⟨("lacking_in", none), "lacking_in", "lacking_in", defArgs s_lacking_in, defBody s_lacking_in, defScope s_lacking_in, [], []⟩
def d_order_in : He.DefD := ⟨("order_in", none), "order_in", "order_in", defArgs s_order_in, defBody s_order_in, defScope s_order_in, [], []⟩
def d_is_outcome_in : He.DefD := ⟨("is_outcome_in", none), "is_outcome_in", "is_outcome_in", defArgs s_is_outcome_in, defBody s_is_outcome_in, defScope s_is_outcome_in, [], []⟩
def d_sure_outcome : He.DefD := ⟨("sure_outcome", none), "sure_outcome", "sure_outcome", defArgs s_sure_outcome, defBody s_sure_outcome, defScope s_sure_outcome, [], []⟩
def d_sure_had : He.DefD := ⟨("sure_had", none), "sure_had", "sure_had", defArgs s_sure_had, defBody s_sure_had, defScope s_sure_had, [], []⟩
def d_firsts_in : He.DefD := ⟨("firsts_in", none), "firsts_in", "firsts_in", defArgs s_firsts_in, defBody s_firsts_in, defScope s_firsts_in, [], []⟩
def d_free_of : He.DefD := ⟨("free_of", none), "free_of", "free_of", defArgs s_free_of, defBody s_free_of, defScope s_free_of, [], []⟩
def d_others_left : He.DefD := ⟨("others_left", none), "others_left", "others_left", defArgs s_others_left, defBody s_others_left, defScope s_others_left, [], []⟩
def d_all_of : He.DefD := ⟨("all_of", none), "all_of", "all_of", defArgs s_all_of, defBody s_all_of, defScope s_all_of, [], []⟩
def d_sure_its_order : He.DefD := ⟨("sure_its_order", none), "sure_its_order", "sure_its_order", defArgs s_sure_its_order, defBody s_sure_its_order, defScope s_sure_its_order, [], []⟩
def d_gone_on : He.DefD := ⟨("gone_on", none), "gone_on", "gone_on", defArgs s_gone_on, defBody s_gone_on, defScope s_gone_on, [], []⟩
def d_beside_order : He.DefD := ⟨("beside_order", none), "beside_order", "beside_order", defArgs s_beside_order, defBody s_beside_order, defScope s_beside_order, [], []⟩
def d_next_order : He.DefD := ⟨("next_order", none), "next_order", "next_order", defArgs s_next_order, defBody s_next_order, defScope s_next_order, [], []⟩
def d_order_ahead : He.DefD := ⟨("order_ahead", none), "order_ahead", "order_ahead", defArgs s_order_ahead, defBody s_order_ahead, defScope s_order_ahead, [], []⟩
def d_least_order : He.DefD := ⟨("least_order", none), "least_order", "least_order", defArgs s_least_order, defBody s_least_order, defScope s_least_order, [], []⟩
def d_greatest_order : He.DefD := ⟨("greatest_order", none), "greatest_order", "greatest_order", defArgs s_greatest_order, defBody s_greatest_order, defScope s_greatest_order, [], []⟩
def d_step_to : He.DefD := ⟨("step_to", none), "step_to", "step_to", defArgs s_step_to, defBody s_step_to, defScope s_step_to, [], []⟩
def d__law_box : He.DefD := ⟨("_law_box", none), "_law_box", "_law_box", defArgs s__law_box, defBody s__law_box, defScope s__law_box, [], []⟩
def d__law_take : He.DefD := ⟨("_law_take", none), "_law_take", "_law_take", defArgs s__law_take, defBody s__law_take, defScope s__law_take, [], []⟩
def d__law_cells : He.DefD := ⟨("_law_cells", none), "_law_cells", "_law_cells", defArgs s__law_cells, defBody s__law_cells, defScope s__law_cells, [], []⟩
def d__law_of : He.DefD := ⟨("_law_of", none), "_law_of", "_law_of", defArgs s__law_of, defBody s__law_of, defScope s__law_of, [], []⟩
def d__law_pick : He.DefD := ⟨("_law_pick", none), "_law_pick", "_law_pick", defArgs s__law_pick, defBody s__law_pick, defScope s__law_pick, [], []⟩
def d__law_lists : He.DefD := ⟨("_law_lists", none), "_law_lists", "_law_lists", defArgs s__law_lists, defBody s__law_lists, defScope s__law_lists, [], []⟩
def d__law_same : He.DefD := ⟨("_law_same", none), "_law_same", "_law_same", defArgs s__law_same, defBody s__law_same, defScope s__law_same, [], []⟩
def d__law_seat : He.DefD := ⟨("_law_seat", none), "_law_seat", "_law_seat", defArgs s__law_seat, defBody s__law_seat, defScope s__law_seat, [], []⟩
def d__law_all_runs : He.DefD := ⟨("_law_all_runs", none), "_law_all_runs", "_law_all_runs", defArgs s__law_all_runs, defBody s__law_all_runs, defScope s__law_all_runs, [], []⟩
def d__law_net : He.DefD := ⟨("_law_net", none), "_law_net", "_law_net", defArgs s__law_net, defBody s__law_net, defScope s__law_net, [], []⟩
def d__law_walk : He.DefD := ⟨("_law_walk", none), "_law_walk", "_law_walk", defArgs s__law_walk, defBody s__law_walk, defScope s__law_walk, [], []⟩
def d__law_had : He.DefD := ⟨("_law_had", none), "_law_had", "_law_had", defArgs s__law_had, defBody s__law_had, defScope s__law_had, [], []⟩
def d__law_heard : He.DefD := ⟨("_law_heard", none), "_law_heard", "_law_heard", defArgs s__law_heard, defBody s__law_heard, defScope s__law_heard, [], []⟩
def d__law_by_hand_right : He.DefD := ⟨("_law_by_hand_right", none), "_law_by_hand_right", "_law_by_hand_right", defArgs s__law_by_hand_right, defBody s__law_by_hand_right, defScope s__law_by_hand_right, [], []⟩
def d__law_step : He.DefD := ⟨("_law_step", none), "_law_step", "_law_step", defArgs s__law_step, defBody s__law_step, defScope s__law_step, [], []⟩
def d__law_right : He.DefD := ⟨("_law_right", none), "_law_right", "_law_right", defArgs s__law_right, defBody s__law_right, defScope s__law_right, [], []⟩
def d_law : He.DefD := ⟨("law", none), "law", "law", defArgs s_law, defBody s_law, defScope s_law, [], []⟩
def fn1 : List He.DefD := [d_is_number, d_is_from, d_is_within, d_is_long, d_tupled, d_is_guest_of, d_is_web, d_sure_web, d_is_row_in, d_is_order_in, d_sure_order, d_seat_in, d_seats_in, d_seated_in, d_is_taking_in, d_sure_taking, d_holders_in, d_asked_in, d_arrows_in, d_lacking_in, d_order_in, d_is_outcome_in, d_sure_outcome, d_sure_had, d_firsts_in, d_free_of, d_others_left, d_all_of, d_sure_its_order, d_gone_on]
def fn2 : List He.DefD := [d_beside_order, d_next_order, d_order_ahead, d_least_order, d_greatest_order, d_step_to, d__law_box, d__law_take, d__law_cells, d__law_of, d__law_pick, d__law_lists, d__law_same, d__law_seat, d__law_all_runs, d__law_net, d__law_walk, d__law_had, d__law_heard, d__law_by_hand_right, d__law_step, d__law_right, d_law]
def fn : List He.DefD := fn1 ++ fn2
def fa1 : List He.Fa := [.exc "CanNot", .glo "CanNot", .exm "CanNot" "CanNot" true, .free "isinstance", .free "tuple", .free "list", .free "bool", .free "int", .free "str", .free "all", .free "any", .free "len", .free "set", .free "range", .free "zip", .free "enumerate", .free "sorted", .free "abs", .free "min", .free "max", .free "ValueError"]
def fa2 : List He.Fa := [.glo "is_number", .glo "is_from", .glo "is_within", .glo "is_long", .glo "tupled", .glo "is_guest_of", .glo "is_web", .glo "sure_web", .glo "is_row_in", .glo "is_order_in", .glo "sure_order", .glo "seat_in", .glo "seats_in", .glo "seated_in", .glo "is_taking_in", .glo "sure_taking", .glo "holders_in", .glo "asked_in", .glo "arrows_in", .glo "lacking_in", .glo "order_in", .glo "is_outcome_in", .glo "sure_outcome", .glo "sure_had", .glo "firsts_in", .glo "free_of", .glo "others_left", .glo "all_of", .glo "sure_its_order", .glo "gone_on"]
def fa3 : List He.Fa := [.glo "beside_order", .glo "next_order", .glo "order_ahead", .glo "least_order", .glo "greatest_order", .glo "step_to", .glo "_law_box", .glo "_law_take", .glo "_law_cells", .glo "_law_of", .glo "_law_pick", .glo "_law_lists", .glo "_law_same", .glo "_law_seat", .glo "_law_all_runs", .glo "_law_net", .glo "_law_walk", .glo "_law_had", .glo "_law_heard", .glo "_law_by_hand_right", .glo "_law_step", .glo "_law_right", .glo "law"]
def fa : List He.Fa := fa1 ++ (fa2 ++ fa3)
abbrev R : PySem.W.OpenRow := PySem.W.OpenLaw.row PySem.Challenge.rw_leftwithout_k29_whole_next_orders_and_st
abbrev hk : PySem.W.Hook := He.hookD 4 fa fn
def ob (s : PySem.W.SharedT) : He.AlD := He.obsDG 4 fa fn (HandSHeadRun.getT s)
theorem ob_eq (s : PySem.W.SharedT) : ob s = hk.obs s.abs := He.obsDG_eq (HandSHeadRun.getT_eq s)
def ln1 : List PySem.Str := ["CanNot", "Unfit", "is_number", "is_from", "is_within", "is_long", "tupled", "is_guest_of", "is_web", "sure_web", "is_row_in", "is_order_in", "sure_order", "seat_in", "seats_in", "seated_in", "is_taking_in", "sure_taking", "holders_in", "asked_in", "arrows_in", "lacking_in", "order_in", "is_outcome_in", "sure_outcome", "sure_had", "firsts_in", "free_of"]
def ln2 : List PySem.Str := ["others_left", "all_of", "sure_its_order", "gone_on", "beside_order", "next_order", "order_ahead", "least_order", "greatest_order", "step_to", "_law_box", "_law_take", "_law_cells", "_law_of", "_law_pick", "_law_lists", "_law_same", "_law_seat", "_law_all_runs", "_law_net", "_law_walk", "_law_had", "_law_heard", "_law_by_hand_right", "_law_step", "_law_right"]
def loose : List PySem.Str := ln1 ++ ln2
end Lw
/-! text K1 -/
set_option Elab.async false
set_option linter.all false
set_option maxRecDepth 100000
set_option maxHeartbeats 2000000
namespace Lw
open PySem PySem.Spec PyProof.Rows L2
/-! ### the heap in two parts: G, which only grows; M, own lists that change -/
abbrev Mh := List (Addr × List V)
def jn (G : Hp) (M : Mh) : Hp := fun b => match M.lookup b with
  | some xs => some (.lst xs)
  | none => G b
def Dj (G : Hp) (M : Mh) : Prop := ∀ b xs, M.lookup b = some xs → G b = none
theorem jn_nil (G : Hp) : jn G [] = G := rfl
theorem dj_nil (G : Hp) : Dj G [] := fun b xs h => by cases h
theorem jn_out {G : Hp} {M : Mh} {b : Addr} (h : M.lookup b = none) : jn G M b = G b := by
  unfold jn
  rw [h]
theorem jn_in {G : Hp} {M : Mh} {b : Addr} {xs : List V} (h : M.lookup b = some xs) : jn G M b = some (.lst xs) := by
  unfold jn
  rw [h]
theorem Dj.out {G : Hp} {M : Mh} (d : Dj G M) {b : Addr} {o : HO} (h : G b = some o) : M.lookup b = none := by
  cases e : M.lookup b with
  | none => rfl
  | some xs => rw [d b xs e] at h; cases h
theorem jn_at {G : Hp} {M : Mh} (d : Dj G M) {b : Addr} {o : HO} (h : G b = some o) : jn G M b = some o := by
  rw [jn_out (d.out h)]
  exact h
theorem jn_none {G : Hp} {M : Mh} {b : Addr} (h : jn G M b = none) : M.lookup b = none ∧ G b = none := by
  unfold jn at h
  cases e : M.lookup b with
  | none => rw [e] at h; exact ⟨rfl, h⟩
  | some xs => rw [e] at h; cases h
/-- a new object of the growing part -/
theorem jn_new {G : Hp} {M : Mh} {p : Addr} {o : HO} (h : jn G M p = none) : upd (jn G M) p o = jn (upd G p o) M := by
  funext b
  by_cases e : b = p
  · subst e
    rw [upd_same, jn_out (jn_none h).1, upd_same]
  · rw [upd_ne e]
    unfold jn
    rw [upd_ne e]
theorem dj_new {G : Hp} {M : Mh} {p : Addr} {o : HO} (d : Dj G M) (h : jn G M p = none) : Dj (upd G p o) M := fun b xs e => by
  have hb : b ≠ p := fun q => by
    subst q
    rw [(jn_none h).1] at e
    cases e
  rw [upd_ne hb]
  exact d b xs e
theorem same_new {G : Hp} {p : Addr} {o : HO} (h : G p = none) : Same G (upd G p o) := fun b u e => by
  rw [upd_ne (ne_of_none e h)]
  exact e
/-- a new list that is to change -/
theorem lk_cons (a b : Addr) (xs : List V) (M : Mh) : ((a, xs) :: M : Mh).lookup b = if b = a then some xs else M.lookup b := by
  rw [List.lookup_cons]
  by_cases e : b = a
  · rw [if_pos e, beq_iff_eq.mpr e]
  · rw [if_neg e]
    cases q : (b == a) with
    | true => exact absurd (beq_iff_eq.mp q) e
    | false => rfl
theorem jn_put (G : Hp) (M : Mh) (p : Addr) (xs : List V) : upd (jn G M) p (.lst xs) = jn G ((p, xs) :: M) := by
  funext b
  unfold jn
  rw [lk_cons]
  by_cases e : b = p
  · subst e
    rw [upd_same, if_pos rfl]
  · rw [upd_ne e, if_neg e]
theorem jn_set (G : Hp) (M : Mh) (p : Addr) (xs ys : List V) : upd (jn G ((p, xs) :: M)) p (.lst ys) = jn G ((p, ys) :: M) := by
  rw [← jn_put, upd_upd, jn_put]
theorem dj_put {G : Hp} {M : Mh} {p : Addr} {xs : List V} (d : Dj G M) (h : G p = none) : Dj G ((p, xs) :: M) := fun b ys e => by
  rw [lk_cons] at e
  by_cases q : b = p
  · rw [q]; exact h
  · rw [if_neg q] at e
    exact d b ys e
theorem dj_set {G : Hp} {M : Mh} {p : Addr} {xs ys : List V} (d : Dj G ((p, xs) :: M)) : Dj G ((p, ys) :: M) := fun b zs e => by
  rw [lk_cons] at e
  by_cases q : b = p
  · exact d b xs (by rw [lk_cons, if_pos q])
  · rw [if_neg q] at e
    exact d b zs (by rw [lk_cons, if_neg q]; exact e)
theorem dj_here {G : Hp} {M : Mh} {p : Addr} {xs : List V} (d : Dj G ((p, xs) :: M)) : G p = none := d p xs (by rw [lk_cons, if_pos rfl])
/-- a list that has changed joins the growing part -/
theorem jn_give {G : Hp} {M : Mh} {p : Addr} {xs : List V} (hm : M.lookup p = none) : jn G ((p, xs) :: M) = jn (upd G p (.lst xs)) M := by
  funext b
  unfold jn
  rw [lk_cons]
  by_cases e : b = p
  · subst e
    rw [if_pos rfl, hm, upd_same]
  · rw [if_neg e, upd_ne e]
theorem dj_give {G : Hp} {M : Mh} {p : Addr} {xs : List V} {o : HO} (d : Dj G ((p, xs) :: M)) (hm : M.lookup p = none) : Dj (upd G p o) M := fun b ys e => by
  have hb : b ≠ p := fun q => by
    rw [q, hm] at e
    cases e
  rw [upd_ne hb]
  exact d b ys (by rw [lk_cons, if_neg hb]; exact e)
theorem jn_mine {G : Hp} {M : Mh} {p : Addr} {xs : List V} : jn G ((p, xs) :: M) p = some (.lst xs) := jn_in (by rw [lk_cons, if_pos rfl])
theorem jn_app (G : Hp) (M N : Mh) : jn G (M ++ N) = jn (jn G N) M := by
  funext b
  induction M with
  | nil => rfl
  | cons e M ih =>
    obtain ⟨a, xs⟩ := e
    unfold jn at ih ⊢
    rw [List.cons_append, lk_cons, lk_cons]
    by_cases q : b = a
    · rw [if_pos q, if_pos q]
    · rw [if_neg q, if_neg q]
      exact ih

/-! ### a def keeps its promise beside other lists -/
theorem seqT {K : PySem.W.Frag} {H H' : Hp} {a : Addr} {xs : List V} (e : Same H H') (h : SqT K H a xs) : SqT K H' a xs := by
  rcases h with (h | ⟨o, h⟩) | h
  · exact .inl (.inl (e _ _ h))
  · exact .inl (.inr ⟨o, e _ _ h⟩)
  · exact .inr h
theorem sq_jnL {K : PySem.W.Frag} {G : Hp} {M : Mh} (d : Dj G M) {a : Addr} {xs : List V} (h : SqL K G a xs) : SqL K (jn G M) a xs := by
  rcases h with (h | ⟨o, h⟩) | h
  · exact .inl (.inl (jn_at d h))
  · exact .inl (.inr ⟨o, jn_at d h⟩)
  · exact .inr h
theorem sq_jnT {K : PySem.W.Frag} {G : Hp} {M : Mh} (d : Dj G M) {a : Addr} {xs : List V} (h : SqT K G a xs) : SqT K (jn G M) a xs := by
  rcases h with (h | ⟨o, h⟩) | h
  · exact .inl (.inl (jn_at d h))
  · exact .inl (.inr ⟨o, jn_at d h⟩)
  · exact .inr h
/-- sp, asked of the growing part alone -/
def fr_ (sp : Sp) : Sp := fun vs H Q _ => ∃ G M, H = jn G M ∧ Dj G M ∧ sp vs G (fun v G' => Dj G' M → Q v (jn G' M)) fun _ _ _ => False
section
variable {P : Program} {w : World} {K : PySem.W.Frag} {mg : Str → Option Value} {base : Heap} {k : Nat} {f : Addr} {fd : FuncData} {ps : List Str} {sp : Sp}
theorem FnOk.frame (F : FnOk P w K mg base CX0 k f fd ps sp) : FnOk P w K mg base CX0 k f fd ps (fr_ sp) := by
  refine ⟨fun vs H Q E h => ?_, fun A outer s H args us vs Q E hr e0 hb hv hs => ?_⟩
  · obtain ⟨G, M, _, _, q⟩ := h
    exact F.len _ _ _ _ q
  obtain ⟨G, M, rfl, dj, q⟩ := hs
  have off : ∀ b, jn G M b = none → G b = none := fun b h => (jn_none h).2
  have onG : ∀ b o, G b = some o → jn G M b = some o := fun b o h => jn_at dj h
  have okG : HOk P w G s.heap := fun a o h => by
    have x := e0.hok a o (onG a o h)
    refine ObjOk.stay x (fun b u _ e => e) (fun b hb => ?_) fun b xs hb => ?_
    · unfold jn at hb
      cases e : M.lookup b with
      | none => rw [e] at hb; exact hb
      | some ys => rw [e] at hb; cases hb
    · unfold jn at hb
      cases e : M.lookup b with
      | none => rw [e] at hb; exact hb
      | some ys => rw [e] at hb; cases hb
  have e1 : Env0 P w K mg base A outer s G := ⟨e0.frames, e0.mod, fun b o h => ⟨(e0.bs b o h).1, off b (e0.bs b o h).2⟩, e0.bsz, e0.funs, fun b hb => off b (e0.frf b hb), okG, e0.bare⟩
  refine codeAny_mono (F.run A outer s G args us vs _ _ hr e1 hb hv q) fun r s' hq => ?_
  cases r with
  | error e => exact hq
  | ok fl =>
    cases fl with
    | ret u =>
      obtain ⟨v, G', os, bare, un, hok, rv, fin⟩ := hq
      have mAt : ∀ b xs, M.lookup b = some xs → ∃ (its : List Value) (n : Nat), xs.length ≤ sizeLine ∧ Vals xs its ∧ s.heap.get? b = some { cls := .type "list", data := .seq its.toArray n } ∧ G' b = none := fun b xs h => by
        obtain ⟨z, its, n, r1, r2⟩ := (show ObjOk P w (jn G M) s.heap b (.lst xs) from e0.hok b _ (jn_in h))
        exact ⟨its, n, z, r1, r2, un.free b _ r2 (dj b xs h) (by simp)⟩
      have dj' : Dj G' M := fun b xs h => by
        obtain ⟨_, _, _, _, _, q⟩ := mAt b xs h
        exact q
      have nofr : ∀ b xs, M.lookup b = some xs → b ∉ frs outer := fun b xs h hb => by
        have := e0.frf b hb
        rw [jn_in h] at this
        cases this
      have lkM : ∀ b, jn G M b = none → M.lookup b = none := fun b h => (jn_none h).1
      refine ⟨v, jn G' M, os, bare, ⟨fun b o e n hb hx => un.keep b o e (off b n) hb hx, fun b o e n hb hx => un.slot b o e (off b n) hb hx, fun b o e n hx => ?_, un.there, fun b xs e => ?_, fun b o u e => ?_, fun b pz e => ?_⟩, fun a o e => ?_, rv, fin dj'⟩
      · rw [jn_out (lkM b n)]
        exact un.free b o e (off b n) hx
      · have lk : M.lookup b = none := by
          cases z : M.lookup b with
          | none => rfl
          | some ys => rw [jn_in z] at e; cases e
        rw [jn_out lk] at e ⊢
        exact un.tups b xs e
      · have lk : M.lookup b = none := by
          cases z : M.lookup b with
          | none => rfl
          | some ys => rw [jn_in z] at e; cases e
        rw [jn_out lk] at e ⊢
        exact un.frzs b o u e
      · have lk : M.lookup b = none := by
          cases z : M.lookup b with
          | none => rfl
          | some ys => rw [jn_in z] at e; cases e
        rw [jn_out lk] at e ⊢
        exact un.tbls b pz e
      · cases z : M.lookup a with
        | none =>
          rw [jn_out z] at e
          exact (hok a o e).stay (fun b u _ h => h) (fun b h => jn_at dj' h) fun b xs h => jn_at dj' h
        | some xs =>
          rw [jn_in z] at e
          cases e
          obtain ⟨its, n, h1, h2, h3, _⟩ := mAt a xs z
          exact ⟨h1, its, n, h2, un.keep a _ h3 (dj a xs z) (nofr a xs z) (by simp)⟩
    | _ => exact hq
end
end Lw
/-! text K2 -/
set_option Elab.async false
set_option linter.all false
set_option maxRecDepth 100000
set_option maxHeartbeats 2000000
namespace L2
open PySem PySem.Spec PyProof.Rows
section
variable {K : PySem.W.Frag} {H H' G G' : Hp} {M : Lw.Mh} {v : V} {d : PyData}
/-! ### data -/
theorem dp_int {i : Int} (h : Dp K H v (.int i)) : v = .int i := by cases h; rfl
theorem dp_bl {i : Bool} (h : Dp K H v (.bool i)) : v = .bl i := by cases h; rfl
theorem dp_non (h : Dp K H v .none) : v = .non := by cases h; rfl
theorem dp_tup {ds : List PyData} (h : Dp K H v (.tuple ds)) : ∃ a xs, v = .ref a ∧ SqT K H a xs ∧ DpAll K H xs ds := by
  cases h with
  | tup h1 h2 => exact ⟨_, _, rfl, h1, h2⟩
theorem dp_lst {ds : List PyData} (h : Dp K H v (.list ds)) : ∃ a xs, v = .ref a ∧ SqL K H a xs ∧ DpAll K H xs ds := by
  cases h with
  | lst h1 h2 => exact ⟨_, _, rfl, h1, h2⟩
mutual
theorem Dp.to {H H' : Hp} (fL : ∀ a xs, SqL K H a xs → SqL K H' a xs) (fT : ∀ a xs, SqT K H a xs → SqT K H' a xs) : ∀ (d : PyData) (v : V), Dp K H v d → Dp K H' v d
  | .none, _, h => by cases h; exact .non
  | .bool _, _, h => by cases h; exact .bl _
  | .int _, _, h => by cases h; exact .int _
  | .str _, _, h => by cases h; exact .str _
  | .list ds, _, h => by
    cases h with
    | lst h1 h2 => exact .lst (fL _ _ h1) (DpAll.to fL fT ds _ h2)
  | .tuple ds, _, h => by
    cases h with
    | tup h1 h2 => exact .tup (fT _ _ h1) (DpAll.to fL fT ds _ h2)
  | .dict _, _, h => by cases h
theorem DpAll.to {H H' : Hp} (fL : ∀ a xs, SqL K H a xs → SqL K H' a xs) (fT : ∀ a xs, SqT K H a xs → SqT K H' a xs) : ∀ (ds : List PyData) (vs : List V), DpAll K H vs ds → DpAll K H' vs ds
  | [], _, h => by cases h; exact .nil
  | d :: ds, _, h => by
    cases h with
    | cons h1 h2 => exact .cons (Dp.to fL fT d _ h1) (DpAll.to fL fT ds _ h2)
end
theorem Dp.mono (e : Same H H') (h : Dp K H v d) : Dp K H' v d := Dp.to (fun _ _ => e.seq) (fun _ _ => Lw.seqT e) d v h
theorem DpAll.mono {vs : List V} {ds : List PyData} (e : Same H H') (h : DpAll K H vs ds) : DpAll K H' vs ds := DpAll.to (fun _ _ => e.seq) (fun _ _ => Lw.seqT e) ds vs h
theorem Dp.jn (dj : Lw.Dj G M) (h : Dp K G v d) : Dp K (Lw.jn G M) v d := Dp.to (fun _ _ => Lw.sq_jnL dj) (fun _ _ => Lw.sq_jnT dj) d v h
theorem DpAll.jn {vs : List V} {ds : List PyData} (dj : Lw.Dj G M) (h : DpAll K G vs ds) : DpAll K (Lw.jn G M) vs ds := DpAll.to (fun _ _ => Lw.sq_jnL dj) (fun _ _ => Lw.sq_jnT dj) ds vs h
theorem DpAll.len : ∀ {vs : List V} {ds : List PyData}, DpAll K H vs ds → vs.length = ds.length
  | _, _, .nil => rfl
  | _, _, .cons _ t => congrArg Nat.succ (DpAll.len t)
theorem DpAll.get : ∀ {vs : List V} {ds : List PyData} {i : Nat} {d : PyData}, DpAll K H vs ds → ds[i]? = some d → ∃ x, vs[i]? = some x ∧ Dp K H x d
  | _, _, _, _, .nil, e => by simp at e
  | _, _, 0, _, .cons h _, e => by
    simp at e
    subst e
    exact ⟨_, rfl, h⟩
  | _, _, i + 1, _, .cons _ t, e => by
    obtain ⟨x, h1, h2⟩ := DpAll.get (i := i) t (by simpa using e)
    exact ⟨x, by simpa using h1, h2⟩
theorem DpAll.get' : ∀ {vs : List V} {ds : List PyData} {i : Nat} {x : V}, DpAll K H vs ds → vs[i]? = some x → ∃ d, ds[i]? = some d ∧ Dp K H x d
  | _, _, _, _, .nil, e => by simp at e
  | _, _, 0, _, .cons h _, e => by
    simp at e
    subst e
    exact ⟨_, rfl, h⟩
  | _, _, i + 1, _, .cons _ t, e => by
    obtain ⟨x, h1, h2⟩ := DpAll.get' (i := i) t (by simpa using e)
    exact ⟨x, by simpa using h1, h2⟩
theorem DpAll.app : ∀ {vs ws : List V} {ds es : List PyData}, DpAll K H vs ds → DpAll K H ws es → DpAll K H (vs ++ ws) (ds ++ es)
  | _, _, _, _, .nil, s => s
  | _, _, _, _, .cons h t, s => .cons h (DpAll.app t s)
theorem DpAll.one (h : Dp K H v d) : DpAll K H [v] [d] := .cons h .nil
theorem DpAll.drp : ∀ {vs : List V} {ds : List PyData} (n : Nat), DpAll K H vs ds → DpAll K H (vs.drop n) (ds.drop n)
  | _, _, 0, h => h
  | _, _, _ + 1, .nil => .nil
  | _, _, n + 1, .cons _ t => DpAll.drp n t
theorem DpAll.tak : ∀ {vs : List V} {ds : List PyData} (n : Nat), DpAll K H vs ds → DpAll K H (vs.take n) (ds.take n)
  | _, _, 0, _ => .nil
  | _, _, _ + 1, .nil => .nil
  | _, _, n + 1, .cons h t => .cons h (DpAll.tak n t)
theorem DpAll.ints : ∀ {vs : List V} {ns : List Int}, DpAll K H vs (ns.map PyData.int) → vs = ns.map V.int
  | _, [], .nil => rfl
  | _, n :: ns, .cons h t => by
    rw [dp_int h, DpAll.ints t]
    rfl
theorem dpall_ints : ∀ (ns : List Int), DpAll K H (ns.map V.int) (ns.map PyData.int)
  | [] => .nil
  | n :: ns => .cons (.int n) (dpall_ints ns)
theorem DpAll.bls : ∀ {vs : List V} {bs : List Bool}, DpAll K H vs (bs.map PyData.bool) → vs = bs.map V.bl
  | _, [], .nil => rfl
  | _, n :: ns, .cons h t => by
    rw [dp_bl h, DpAll.bls t]
    rfl
theorem dpall_rep (h : Dp K H v d) : ∀ n : Nat, DpAll K H (List.replicate n v) (List.replicate n d)
  | 0 => .nil
  | n + 1 => .cons h (dpall_rep h n)
theorem DpAll.set {x : V} {e : PyData} (h : Dp K H x e) : ∀ {vs : List V} {ds : List PyData} (i : Nat), DpAll K H vs ds → DpAll K H (vs.set i x) (ds.set i e)
  | _, _, _, .nil => .nil
  | _, _, 0, .cons _ t => .cons h t
  | _, _, i + 1, .cons q t => .cons q (DpAll.set h i t)
theorem DpAll.erase : ∀ {vs : List V} {ds : List PyData} (i : Nat), DpAll K H vs ds → DpAll K H (vs.eraseIdx i) (ds.eraseIdx i)
  | _, _, _, .nil => .nil
  | _, _, 0, .cons _ t => t
  | _, _, i + 1, .cons q t => .cons q (DpAll.erase i t)
end
end L2
namespace Lw
open PySem PySem.Spec PyProof.Rows L2
theorem jn_same {G G' : Hp} {M : Mh} (s : Same G G') (dj : Dj G' M) {p : Addr} {o : HO} (h : jn G M p = some o) : jn G' M p = some o := by
  unfold jn at h ⊢
  cases e : M.lookup p with
  | none => rw [e] at h; exact s _ _ h
  | some xs => rw [e] at h; exact h
theorem sq_same {K : PySem.W.Frag} {G G' : Hp} {M : Mh} (s : Same G G') (dj : Dj G' M) {p : Addr} {xs : List V} (hp : SqL K (jn G M) p xs) : SqL K (jn G' M) p xs := by
  rcases hp with (hp | ⟨o, hp⟩) | hp
  · exact .inl (.inl (jn_same s dj hp))
  · exact .inl (.inr ⟨o, jn_same s dj hp⟩)
  · exact .inr hp
theorem sqt_same {K : PySem.W.Frag} {G G' : Hp} {M : Mh} (s : Same G G') (dj : Dj G' M) {p : Addr} {xs : List V} (hp : SqT K (jn G M) p xs) : SqT K (jn G' M) p xs := by
  rcases hp with (hp | ⟨o, hp⟩) | hp
  · exact .inl (.inl (jn_same s dj hp))
  · exact .inl (.inr ⟨o, jn_same s dj hp⟩)
  · exact .inr hp
theorem dp_same {K : PySem.W.Frag} {G G' : Hp} {M : Mh} (s : Same G G') (dj : Dj G' M) {v : V} {d : PyData} (h : Dp K (jn G M) v d) : Dp K (jn G' M) v d := Dp.to (fun _ _ => sq_same s dj) (fun _ _ => sqt_same s dj) d v h
/-! ### what evaluates to which data -/
section
variable (K : PySem.W.Frag) (M : Mh)
def Ev (te : TE) (σ : L2.St) (G : Hp) (d : PyData) : Prop := ∀ G1, Same G G1 → Dj G1 M → ∀ Q : VK, (∀ v G2, Same G1 G2 → Dj G2 M → Dp K G2 v d → Q v (jn G2 M)) → te σ (jn G1 M) Q
/-- the same, read where M stands beside -/
def EvJ (te : TE) (σ : L2.St) (G : Hp) (d : PyData) : Prop := ∀ G1, Same G G1 → Dj G1 M → ∀ Q : VK, (∀ v G2, Same G1 G2 → Dj G2 M → Dp K (jn G2 M) v d → Q v (jn G2 M)) → te σ (jn G1 M) Q
/-- a list, read -/
def EvS (te : TE) (σ : L2.St) (G : Hp) (ds : List PyData) : Prop := ∀ G1, Same G G1 → Dj G1 M → ∀ Q : VK, (∀ p xs G2, Same G1 G2 → Dj G2 M → SqL K (jn G2 M) p xs → DpAll K G2 xs ds → Q (.ref p) (jn G2 M)) → te σ (jn G1 M) Q
/-- a list of one's own (not the written part's) -/
def EvL (te : TE) (σ : L2.St) (G : Hp) (ds : List PyData) : Prop := ∀ G1, Same G G1 → Dj G1 M → ∀ Q : VK, (∀ p xs G2, Same G1 G2 → Dj G2 M → jn G2 M p = some (.lst xs) → DpAll K G2 xs ds → Q (.ref p) (jn G2 M)) → te σ (jn G1 M) Q
/-- a new list -/
def EvM (te : TE) (σ : L2.St) (G : Hp) (ds : List PyData) : Prop := ∀ G1, Same G G1 → Dj G1 M → ∀ Q : VK, (∀ p xs G2, Same G1 G2 → M.lookup p = none → Dj G2 ((p, xs) :: M) → DpAll K G2 xs ds → Q (.ref p) (jn G2 ((p, xs) :: M))) → te σ (jn G1 M) Q
def EvB (tt : TT) (σ : L2.St) (G : Hp) (b : Bool) : Prop := ∀ G1, Same G G1 → Dj G1 M → ∀ Q : Bool → Hp → Prop, (∀ G2, Same G1 G2 → Dj G2 M → Q b (jn G2 M)) → tt σ (jn G1 M) Q
def EvA (ta : TA) (σ : L2.St) (G : Hp) (ds : List PyData) : Prop := ∀ G1, Same G G1 → Dj G1 M → ∀ Q : List V → Hp → Prop, (∀ vs G2, Same G1 G2 → Dj G2 M → DpAll K G2 vs ds → Q vs (jn G2 M)) → ta σ (jn G1 M) Q
def EvO (to : TO) (σ : L2.St) (G : Hp) (o : Option Int) : Prop := ∀ G1, Same G G1 → Dj G1 M → ∀ Q : Option Int → Hp → Prop, (∀ G2, Same G1 G2 → Dj G2 M → Q o (jn G2 M)) → to σ (jn G1 M) Q
end
theorem sz {n : Nat} (h : n ≤ 100000) : n ≤ sizeLine := Nat.le_trans h (by decide)
section
variable {K : PySem.W.Frag} {M : Mh} {σ : L2.St} {G G' : Hp} {ta tb tc te : TE} {t u : TT} {d e : PyData} {ds es : List PyData} {i j : Int} {b c : Bool}
theorem Ev.mono (x : Same G G') (h : Ev K M te σ G d) : Ev K M te σ G' d := fun G1 a dj Q q => h G1 (x.trans a) dj Q q
theorem EvJ.mono (x : Same G G') (h : EvJ K M te σ G d) : EvJ K M te σ G' d := fun G1 a dj Q q => h G1 (x.trans a) dj Q q
theorem EvS.mono (x : Same G G') (h : EvS K M te σ G ds) : EvS K M te σ G' ds := fun G1 a dj Q q => h G1 (x.trans a) dj Q q
theorem EvL.mono (x : Same G G') (h : EvL K M te σ G ds) : EvL K M te σ G' ds := fun G1 a dj Q q => h G1 (x.trans a) dj Q q
theorem EvM.mono (x : Same G G') (h : EvM K M te σ G ds) : EvM K M te σ G' ds := fun G1 a dj Q q => h G1 (x.trans a) dj Q q
theorem EvB.mono (x : Same G G') (h : EvB M t σ G b) : EvB M t σ G' b := fun G1 a dj Q q => h G1 (x.trans a) dj Q q
theorem EvA.mono {ta : TA} (x : Same G G') (h : EvA K M ta σ G ds) : EvA K M ta σ G' ds := fun G1 a dj Q q => h G1 (x.trans a) dj Q q
theorem Ev.toJ (h : Ev K M te σ G d) : EvJ K M te σ G d := fun G1 a dj Q q => h G1 a dj Q fun v G2 s dj2 hv => q v G2 s dj2 (hv.jn dj2)
theorem EvS.toJ (h : EvS K M te σ G ds) : EvJ K M te σ G (.list ds) := fun G1 a dj Q q => h G1 a dj Q fun p xs G2 s dj2 hp hd => q _ G2 s dj2 (.lst hp (hd.jn dj2))
theorem Ev.toS (h : Ev K M te σ G (.list ds)) : EvS K M te σ G ds := fun G1 a dj Q q => h G1 a dj Q fun v G2 s dj2 hv => by
  obtain ⟨p, xs, rfl, h1, h2⟩ := dp_lst hv
  exact q p xs G2 s dj2 (sq_jnL dj2 h1) h2
theorem EvL.toS (h : EvL K M te σ G ds) : EvS K M te σ G ds := fun G1 a dj Q q => h G1 a dj Q fun p xs G2 s dj2 hp hd => q p xs G2 s dj2 (.of hp) hd
theorem EvM.toL (h : EvM K M te σ G ds) : EvL K M te σ G ds := fun G1 a dj Q q => h G1 a dj Q fun p xs G2 s hm dj2 hd => by
  have n := dj_here dj2
  rw [jn_give hm]
  exact q p xs _ (s.trans (same_new n)) (dj_give dj2 hm) (by rw [jn_out hm, upd_same]) (hd.mono (same_new n))
theorem EvM.toE (h : EvM K M te σ G ds) : Ev K M te σ G (.list ds) := fun G1 a dj Q q => h G1 a dj Q fun p xs G2 s hm dj2 hd => by
  have n := dj_here dj2
  rw [jn_give hm]
  exact q _ _ (s.trans (same_new n)) (dj_give dj2 hm) (.lst (.of upd_same) (hd.mono (same_new n)))
theorem evl_var {i : Nat} {p : Addr} {xs : List V} (h : σ[i]? = some (some (.ref p))) (hm : M.lookup p = some xs) (hd : DpAll K G xs ds) : EvL K M (tVar i) σ G ds := fun G1 s dj Q q => ⟨.ref p, h, q p xs G1 (Same.refl _) dj (jn_in hm) (hd.mono s)⟩
theorem evl_varG {i : Nat} {p : Addr} {xs : List V} (h : σ[i]? = some (some (.ref p))) (hm : G p = some (.lst xs)) (hd : DpAll K G xs ds) : EvL K M (tVar i) σ G ds := fun G1 s dj Q q => ⟨.ref p, h, q p xs G1 (Same.refl _) dj (jn_at dj (s _ _ hm)) (hd.mono s)⟩
theorem ev_var {i : Nat} {v : V} (h : σ[i]? = some (some v)) (hd : Dp K G v d) : Ev K M (tVar i) σ G d := fun G1 s dj Q q => ⟨v, h, q v G1 (Same.refl _) dj (hd.mono s)⟩
theorem ev_int : Ev K M (tC (.int i)) σ G (.int i) := fun G1 s dj Q q => q _ G1 (Same.refl _) dj (.int _)
theorem ev_bl : Ev K M (tC (.bl b)) σ G (.bool b) := fun G1 s dj Q q => q _ G1 (Same.refl _) dj (.bl _)
theorem ev_non : Ev K M (tC .non) σ G .none := fun G1 s dj Q q => q _ G1 (Same.refl _) dj .non
theorem ev_str {x : Str} : Ev K M (tC (.str x)) σ G (.str x) := fun G1 s dj Q q => q _ G1 (Same.refl _) dj (.str _)
/-- two operands -/
theorem ev_op {r : R2} (ha : Ev K M ta σ G d) (hb : Ev K M tb σ G e) {z : PyData} (hr : ∀ x y G1 (Q : VK), Same G G1 → Dj G1 M → Dp K G1 x d → Dp K G1 y e → (∀ v G2, Same G1 G2 → Dj G2 M → Dp K G2 v z → Q v (jn G2 M)) → r x y (jn G1 M) Q) : Ev K M (tOp r ta tb) σ G z :=
  fun G1 s dj Q q => ha G1 s dj _ fun x G2 s2 dj2 hx => hb G2 (s.trans s2) dj2 _ fun y G3 s3 dj3 hy => hr x y G3 Q ((s.trans s2).trans s3) dj3 (hx.mono s3) hy fun v G4 s4 dj4 hv => q v G4 ((s2.trans s3).trans s4) dj4 hv
theorem ev_I0 {g : Int → Int → V} {z : PyData} (ha : Ev K M ta σ G (.int i)) (hb : Ev K M tb σ G (.int j)) (hz : ∀ H, Dp K H (g i j) z) : Ev K M (tOp (rI0 g) ta tb) σ G z :=
  ev_op ha hb fun x y G1 Q s dj hx hy q => by
    cases hx
    cases hy
    exact ⟨i, j, rfl, rfl, q _ G1 (Same.refl _) dj (hz _)⟩
theorem ev_I {C : Int → Int → Prop} {g : Int → Int → V} {z : PyData} (ha : Ev K M ta σ G (.int i)) (hb : Ev K M tb σ G (.int j)) (hc : C i j) (hz : ∀ H, Dp K H (g i j) z) : Ev K M (tOp (rI C g) ta tb) σ G z :=
  ev_op ha hb fun x y G1 Q s dj hx hy q => by
    cases hx
    cases hy
    exact ⟨i, j, rfl, rfl, hc, q _ G1 (Same.refl _) dj (hz _)⟩
theorem ev_eqD (ha : EvJ K M ta σ G d) (hb : EvJ K M tb σ G e) (h1 : SeqAt.shaped d = true) (h2 : SeqAt.shaped e = true) : Ev K M (tOp (rEqD K) ta tb) σ G (.bool (PyData.eqv d e)) := fun G1 s dj Q q =>
  ha G1 s dj _ fun x G2 s2 dj2 hx => hb G2 (s.trans s2) dj2 _ fun y G3 s3 dj3 hy => ⟨d, e, dp_same s3 dj3 hx, hy, h1, h2, q _ G3 (s2.trans s3) dj3 (.bl _)⟩
theorem ev_neD (ha : EvJ K M ta σ G d) (hb : EvJ K M tb σ G e) (h1 : SeqAt.shaped d = true) (h2 : SeqAt.shaped e = true) : Ev K M (tOp (rNeD K) ta tb) σ G (.bool (!PyData.eqv d e)) := fun G1 s dj Q q =>
  ha G1 s dj _ fun x G2 s2 dj2 hx => hb G2 (s.trans s2) dj2 _ fun y G3 s3 dj3 hy => ⟨d, e, dp_same s3 dj3 hx, hy, h1, h2, q _ G3 (s2.trans s3) dj3 (.bl _)⟩
theorem ev_eqI (ha : Ev K M ta σ G (.int i)) (hb : Ev K M tb σ G (.int j)) : Ev K M (tOp rEq ta tb) σ G (.bool (decide (i = j))) :=
  ev_op ha hb fun x y G1 Q s dj hx hy q => by
    cases hx
    cases hy
    have e : decide (V.int i = V.int j) = decide (i = j) := decide_eq_decide.mpr ⟨V.int.inj, congrArg V.int⟩
    exact ⟨rfl, by rw [e]; exact q _ G1 (Same.refl _) dj (.bl _)⟩
theorem ev_neI (ha : Ev K M ta σ G (.int i)) (hb : Ev K M tb σ G (.int j)) : Ev K M (tOp rNe ta tb) σ G (.bool (!decide (i = j))) :=
  ev_op ha hb fun x y G1 Q s dj hx hy q => by
    cases hx
    cases hy
    have e : decide (V.int i = V.int j) = decide (i = j) := decide_eq_decide.mpr ⟨V.int.inj, congrArg V.int⟩
    exact ⟨rfl, by rw [e]; exact q _ G1 (Same.refl _) dj (.bl _)⟩
theorem ev_eqB (ha : Ev K M ta σ G (.bool b)) (hb : Ev K M tb σ G (.bool c)) : Ev K M (tOp rEq ta tb) σ G (.bool (b == c)) :=
  ev_op ha hb fun x y G1 Q s dj hx hy q => by
    cases hx
    cases hy
    have e : decide (V.bl b = V.bl c) = (b == c) := by cases b <;> cases c <;> rfl
    exact ⟨rfl, by rw [e]; exact q _ G1 (Same.refl _) dj (.bl _)⟩
theorem ev_neB (ha : Ev K M ta σ G (.bool b)) (hb : Ev K M tb σ G (.bool c)) : Ev K M (tOp rNe ta tb) σ G (.bool (b != c)) :=
  ev_op ha hb fun x y G1 Q s dj hx hy q => by
    cases hx
    cases hy
    have e : (!decide (V.bl b = V.bl c)) = (b != c) := by cases b <;> cases c <;> rfl
    exact ⟨rfl, by rw [e]; exact q _ G1 (Same.refl _) dj (.bl _)⟩
def isNon : PyData → Bool
  | .none => true
  | _ => false
abbrev rIsN : R2 := fun x y H Q => y = .non ∧ Q (.bl (decide (x = .non))) H
abbrev rNotN : R2 := fun x y H Q => y = .non ∧ Q (.bl (!decide (x = .non))) H
theorem dp_isNon {H : Hp} {v : V} (h : Dp K H v d) : decide (v = .non) = isNon d := by cases h <;> rfl
theorem ev_isN (ha : Ev K M ta σ G d) : Ev K M (tOp rIsN ta (tC .non)) σ G (.bool (isNon d)) :=
  ev_op ha ev_non fun x y G1 Q s dj hx hy q => by
    cases hy
    exact ⟨rfl, by rw [dp_isNon hx]; exact q _ G1 (Same.refl _) dj (.bl _)⟩
theorem ev_notN (ha : Ev K M ta σ G d) : Ev K M (tOp rNotN ta (tC .non)) σ G (.bool (!isNon d)) :=
  ev_op ha ev_non fun x y G1 Q s dj hx hy q => by
    cases hy
    exact ⟨rfl, by rw [dp_isNon hx]; exact q _ G1 (Same.refl _) dj (.bl _)⟩
/-! tests -/
theorem eb_test (h : Ev K M te σ G (.bool b)) : EvB M (tTest te) σ G b := fun G1 s dj Q q => h G1 s dj _ fun v G2 s2 dj2 hv => by
  cases hv
  exact ⟨b, rfl, q G2 s2 dj2⟩
theorem eb_B (h : Ev K M te σ G (.bool b)) : EvB M (tB te) σ G b := fun G1 s dj Q q => h G1 s dj _ fun v G2 s2 dj2 hv => by
  cases hv
  exact ⟨b, rfl, q G2 s2 dj2⟩
theorem eb_yes : EvB M tYes σ G true := fun G1 s dj Q q => q G1 (Same.refl _) dj
theorem eb_not (h : EvB M t σ G b) : EvB M (tNot t) σ G (!b) := fun G1 s dj Q q => h G1 s dj _ fun G2 s2 dj2 => q G2 s2 dj2
theorem eb_and (h1 : EvB M t σ G b) (h2 : b = true → EvB M u σ G c) : EvB M (tAnd t u) σ G (b && c) := fun G1 s dj Q q => h1 G1 s dj _ fun G2 s2 dj2 => by
  cases b with
  | true => exact h2 rfl G2 (s.trans s2) dj2 Q fun G3 s3 dj3 => q G3 (s2.trans s3) dj3
  | false => exact q G2 s2 dj2
theorem eb_or (h1 : EvB M t σ G b) (h2 : b = false → EvB M u σ G c) : EvB M (tOr t u) σ G (b || c) := fun G1 s dj Q q => h1 G1 s dj _ fun G2 s2 dj2 => by
  cases b with
  | false => exact h2 rfl G2 (s.trans s2) dj2 Q fun G3 s3 dj3 => q G3 (s2.trans s3) dj3
  | true => exact q G2 s2 dj2
theorem ev_and (h1 : Ev K M ta σ G (.bool b)) (h2 : b = true → Ev K M tb σ G (.bool c)) : Ev K M (tAndV ta tb) σ G (.bool (b && c)) := fun G1 s dj Q q => h1 G1 s dj _ fun v G2 s2 dj2 hv => by
  cases hv
  refine ⟨b, rfl, ?_⟩
  cases b with
  | true => exact h2 rfl G2 (s.trans s2) dj2 Q fun v G3 s3 dj3 hv => q v G3 (s2.trans s3) dj3 hv
  | false => exact q _ G2 s2 dj2 (.bl _)
theorem ev_or (h1 : Ev K M ta σ G (.bool b)) (h2 : b = false → Ev K M tb σ G (.bool c)) : Ev K M (tOrV ta tb) σ G (.bool (b || c)) := fun G1 s dj Q q => h1 G1 s dj _ fun v G2 s2 dj2 hv => by
  cases hv
  refine ⟨b, rfl, ?_⟩
  cases b with
  | false => exact h2 rfl G2 (s.trans s2) dj2 Q fun v G3 s3 dj3 hv => q v G3 (s2.trans s3) dj3 hv
  | true => exact q _ G2 s2 dj2 (.bl _)
theorem ev_not (h : Ev K M ta σ G (.bool b)) : Ev K M (tNotV ta) σ G (.bool (!b)) := fun G1 s dj Q q => h G1 s dj _ fun v G2 s2 dj2 hv => by
  cases hv
  exact ⟨b, rfl, q _ G2 s2 dj2 (.bl _)⟩
theorem ev_if (h : EvB M t σ G b) (h1 : b = true → Ev K M ta σ G d) (h2 : b = false → Ev K M tb σ G d) : Ev K M (tIf t ta tb) σ G d := fun G1 s dj Q q => h G1 s dj _ fun G2 s2 dj2 => by
  cases b with
  | true => exact h1 rfl G2 (s.trans s2) dj2 Q fun v G3 s3 dj3 hv => q v G3 (s2.trans s3) dj3 hv
  | false => exact h2 rfl G2 (s.trans s2) dj2 Q fun v G3 s3 dj3 hv => q v G3 (s2.trans s3) dj3 hv
theorem ev_ifT (h : EvB M t σ G true) (h1 : Ev K M ta σ G d) : Ev K M (tIf t ta tb) σ G d := ev_if h (fun _ => h1) fun q => nomatch q
theorem ev_ifF (h : EvB M t σ G false) (h1 : Ev K M tb σ G d) : Ev K M (tIf t ta tb) σ G d := ev_if h (fun q => nomatch q) fun _ => h1
/-- a <= b <= c of ints -/
theorem ev_chain {p r : Int → Int → Bool} {k : Int} (ha : Ev K M ta σ G (.int i)) (hb : Ev K M tb σ G (.int j)) (hc : Ev K M tc σ G (.int k)) : Ev K M (tChain (rI0 fun x y => .bl (p x y)) (rI0 fun x y => .bl (r x y)) ta tb tc) σ G (.bool (p i j && r j k)) :=
  fun G1 s dj Q q => ha G1 s dj _ fun x G2 s2 dj2 hx => hb G2 (s.trans s2) dj2 _ fun y G3 s3 dj3 hy => by
    cases hx
    cases hy
    refine ⟨i, j, rfl, rfl, _, rfl, ?_⟩
    cases e : p i j with
    | true =>
      rw [e, Bool.true_and] at q
      exact iteT (hc G3 ((s.trans s2).trans s3) dj3 _ fun z G4 s4 dj4 hz => by
        cases hz
        exact ⟨j, k, rfl, rfl, q _ G4 ((s2.trans s3).trans s4) dj4 (.bl _)⟩)
    | false =>
      rw [e, Bool.false_and] at q
      exact iteF (q _ G3 (s2.trans s3) dj3 (.bl _))
/-! displays, arguments -/
theorem ea_nil : EvA K M tNil σ G [] := fun G1 s dj Q q => q [] G1 (Same.refl _) dj .nil
theorem ea_cons {tr : TA} (h : Ev K M te σ G d) (hr : EvA K M tr σ G ds) : EvA K M (tCons te tr) σ G (d :: ds) := fun G1 s dj Q q =>
  h G1 s dj _ fun v G2 s2 dj2 hv => hr G2 (s.trans s2) dj2 _ fun vs G3 s3 dj3 hvs => q (v :: vs) G3 (s2.trans s3) dj3 (.cons (hv.mono s3) hvs)
theorem ea_one (h : Ev K M te σ G d) : EvA K M (tCons te tNil) σ G [d] := ea_cons h ea_nil
theorem ea_two (h : Ev K M ta σ G d) (h2 : Ev K M tb σ G e) : EvA K M (tCons ta (tCons tb tNil)) σ G [d, e] := ea_cons h (ea_one h2)
theorem ev_tup {ta : TA} (h : EvA K M ta σ G ds) (hl : ds.length ≤ 100000 := by decide) : Ev K M (tTup ta) σ G (.tuple ds) := fun G1 s dj Q q => h G1 s dj _ fun vs G2 s2 dj2 hv =>
  ⟨by rw [hv.len]; exact sz hl, fun p hp => by
    have n := jn_none hp
    rw [jn_new hp]
    exact q _ _ (s2.trans (same_new n.2)) (dj_new dj2 hp) (.tup (.of upd_same) (hv.mono (same_new n.2)))⟩
/-- a new list at p -/
theorem to_new {G1 G2 : Hp} {Q : VK} {xs : List V} (s2 : Same G1 G2) (dj2 : Dj G2 M) (hd : DpAll K G2 xs ds) (q : ∀ p xs G2, Same G1 G2 → M.lookup p = none → Dj G2 ((p, xs) :: M) → DpAll K G2 xs ds → Q (.ref p) (jn G2 ((p, xs) :: M))) :
    ∀ p, jn G2 M p = none → Q (.ref p) (upd (jn G2 M) p (.lst xs)) := fun p hp => by
  have n := jn_none hp
  rw [jn_put]
  exact q p xs G2 s2 n.1 (dj_put dj2 n.2) hd
theorem evm_lst {ta : TA} (h : EvA K M ta σ G ds) (hl : ds.length ≤ 100000 := by decide) : EvM K M (tLst ta) σ G ds := fun G1 s dj Q q => h G1 s dj _ fun vs G2 s2 dj2 hv =>
  ⟨by rw [hv.len]; exact sz hl, to_new s2 dj2 hv q⟩
/-! subscripts, slices, + -/
theorem atI_dp {H : Hp} {xs : List V} (h : DpAll K H xs ds) {z : Int} (e : atI ds z = some d) : ∃ x, atI xs z = some x ∧ Dp K H x d := by
  unfold atI at e ⊢
  rw [h.len]
  cases q : ixN ds.length z with
  | none => rw [q] at e; cases e
  | some n =>
    rw [q] at e
    exact h.get e
theorem ev_ixT {z : Int} (ha : Ev K M ta σ G (.tuple ds)) (hb : Ev K M tb σ G (.int z)) (h : atI ds z = some d) : Ev K M (tOp (rIxT K) ta tb) σ G d :=
  ev_op ha hb fun x y G1 Q s dj hx hy q => by
    cases hy
    obtain ⟨a, xs, rfl, h1, h2⟩ := dp_tup hx
    obtain ⟨x, e1, e2⟩ := atI_dp h2 h
    exact ⟨a, xs, z, x, rfl, rfl, sq_jnT dj h1, e1, q _ G1 (Same.refl _) dj e2⟩
theorem ev_ixL {z : Int} (ha : EvS K M ta σ G ds) (hb : Ev K M tb σ G (.int z)) (h : atI ds z = some d) : Ev K M (tOp (rIxL K) ta tb) σ G d := fun G1 s dj Q q =>
  ha G1 s dj _ fun p xs G2 s2 dj2 hp hd => hb G2 (s.trans s2) dj2 _ fun y G3 s3 dj3 hy => by
    cases hy
    obtain ⟨x, e1, e2⟩ := atI_dp (hd.mono s3) h
    refine ⟨p, xs, z, x, rfl, rfl, ?_, e1, q _ G3 (s2.trans s3) dj3 e2⟩
    rcases hp with (hp | ⟨o, hp⟩) | hp
    · exact .inl (.inl (jn_same s3 dj3 hp))
    · exact .inl (.inr ⟨o, jn_same s3 dj3 hp⟩)
    · exact .inr hp
theorem eo_none : EvO M tNoPart σ G none := fun G1 s dj Q q => q G1 (Same.refl _) dj
theorem eo_some (h : Ev K M te σ G (.int i)) : EvO M (tPart te) σ G (some i) := fun G1 s dj Q q => h G1 s dj _ fun v G2 s2 dj2 hv => by
  cases hv
  exact ⟨i, rfl, q G2 s2 dj2⟩
def cutD {α : Type} (xs : List α) (lo hi : Option Int) : List α := (xs.drop (HT.sIx xs.length 0 lo)).take (HT.sIx xs.length xs.length hi - HT.sIx xs.length 0 lo)
theorem cut_dp {H : Hp} {xs : List V} (h : DpAll K H xs ds) (lo hi : Option Int) : DpAll K H (cutV xs lo hi) (cutD ds lo hi) := by
  unfold cutV cutD
  rw [h.len]
  exact (h.drp _).tak _
theorem ev_slT {to th : TO} {lo hi : Option Int} (ha : Ev K M ta σ G (.tuple ds)) (h1 : EvO M to σ G lo) (h2 : EvO M th σ G hi) : Ev K M (tSl (rSlA K) ta to th) σ G (.tuple (cutD ds lo hi)) := fun G1 s dj Q q =>
  ha G1 s dj _ fun v G2 s2 dj2 hv => h1 G2 (s.trans s2) dj2 _ fun G3 s3 dj3 => h2 G3 ((s.trans s2).trans s3) dj3 _ fun G4 s4 dj4 => by
    have hv := hv.mono (s3.trans s4)
    have sA := (s2.trans s3).trans s4
    have hv' := hv
    obtain ⟨a, xs, rfl, k1, k2⟩ := dp_tup hv
    have kc := cut_dp k2 lo hi
    refine ⟨a, xs, rfl, sq_jnT dj4 k1, fun hw => ?_, fun _ p hp => ?_⟩
    · refine q _ G4 sA dj4 ?_
      have : cutD ds lo hi = ds := by
        unfold cutD
        rw [← k2.len, hw.1, hw.2, List.drop_zero, Nat.sub_zero, k2.len, List.take_length]
      rw [this]
      exact hv'
    · have n := jn_none hp
      rw [jn_new hp]
      exact q _ _ (sA.trans (same_new n.2)) (dj_new dj4 hp) (.tup (.of upd_same) (kc.mono (same_new n.2)))
theorem evm_slL {to th : TO} {lo hi : Option Int} (ha : EvS K M ta σ G ds) (h1 : EvO M to σ G lo) (h2 : EvO M th σ G hi) : EvM K M (tSl (rSlL K) ta to th) σ G (cutD ds lo hi) := fun G1 s dj Q q =>
  ha G1 s dj _ fun p xs G2 s2 dj2 hp hd => h1 G2 (s.trans s2) dj2 _ fun G3 s3 dj3 => h2 G3 ((s.trans s2).trans s3) dj3 _ fun G4 s4 dj4 =>
    ⟨p, xs, rfl, sq_same (s3.trans s4) dj4 hp, to_new ((s2.trans s3).trans s4) dj4 (cut_dp (hd.mono (s3.trans s4)) lo hi) q⟩
theorem evm_cat (ha : EvL K M ta σ G ds) (hb : EvL K M tb σ G es) (hl : ds.length + es.length ≤ 100000) : EvM K M (tOp rCat ta tb) σ G (ds ++ es) := fun G1 s dj Q q =>
  ha G1 s dj _ fun p xs G2 s2 dj2 hp hd => hb G2 (s.trans s2) dj2 _ fun r ys G3 s3 dj3 hr he =>
    ⟨p, r, xs, ys, rfl, rfl, jn_same s3 dj3 hp, hr, by rw [hd.len, he.len]; exact sz hl, to_new (s2.trans s3) dj3 ((hd.mono s3).app he) q⟩
theorem ev_catT (ha : Ev K M ta σ G (.tuple ds)) (hb : Ev K M tb σ G (.tuple es)) (hl : ds.length + es.length ≤ 100000) : Ev K M (tOp (rCatA K) ta tb) σ G (.tuple (ds ++ es)) :=
  ev_op ha hb fun x y G1 Q s dj hx hy q => by
    have hx' := hx
    have hy' := hy
    obtain ⟨a, xs, rfl, h1, h2⟩ := dp_tup hx
    obtain ⟨b, ys, rfl, k1, k2⟩ := dp_tup hy
    refine ⟨a, b, xs, ys, rfl, rfl, sq_jnT dj h1, sq_jnT dj k1, by rw [h2.len, k2.len]; exact sz hl, fun e => ?_, fun _ e => ?_, fun _ _ p hp => ?_⟩
    · subst e
      cases h2
      exact q _ G1 (Same.refl _) dj hy'
    · subst e
      cases k2
      rw [List.append_nil] at q
      exact q _ G1 (Same.refl _) dj hx'
    · have n := jn_none hp
      rw [jn_new hp]
      exact q _ _ (same_new n.2) (dj_new dj hp) (.tup (.of upd_same) ((h2.app k2).mono (same_new n.2)))
/-! in, not in -/
theorem ev_inD (ha : EvJ K M ta σ G d) (hb : EvS K M tb σ G ds) (h1 : SeqAt.shaped d = true) (h2 : SeqAt.shaped (.list ds) = true) : Ev K M (tOp (rInD K) ta tb) σ G (.bool (ds.any fun z => PyData.eqv z d)) := fun G1 s dj Q q =>
  ha G1 s dj _ fun x G2 s2 dj2 hx => hb.toJ G2 (s.trans s2) dj2 _ fun y G3 s3 dj3 hy => ⟨d, ds, dp_same s3 dj3 hx, hy, h1, h2, q _ G3 (s2.trans s3) dj3 (.bl _)⟩
theorem ev_notInD (ha : EvJ K M ta σ G d) (hb : EvS K M tb σ G ds) (h1 : SeqAt.shaped d = true) (h2 : SeqAt.shaped (.list ds) = true) : Ev K M (tOp (rNotInD K) ta tb) σ G (.bool (!ds.any fun z => PyData.eqv z d)) := fun G1 s dj Q q =>
  ha G1 s dj _ fun x G2 s2 dj2 hx => hb.toJ G2 (s.trans s2) dj2 _ fun y G3 s3 dj3 hy => ⟨d, ds, dp_same s3 dj3 hx, hy, h1, h2, q _ G3 (s2.trans s3) dj3 (.bl _)⟩
/-- numbers or None -/
def oD : Option Nat → PyData
  | none => .none
  | some n => .int (n : Nat)
def oV : Option Nat → V
  | none => .non
  | some n => .int (n : Nat)
theorem dp_oD {H : Hp} {v : V} {o : Option Nat} (h : Dp K H v (oD o)) : v = oV o := by
  cases o with
  | none => exact dp_non h
  | some n => exact dp_int h
theorem oD_dp {H : Hp} (o : Option Nat) : Dp K H (oV o) (oD o) := by
  cases o with
  | none => exact .non
  | some n => exact .int _
theorem dpall_oD {H : Hp} : ∀ {vs : List V} {os : List (Option Nat)}, DpAll K H vs (os.map oD) → vs = os.map oV
  | _, [], .nil => rfl
  | _, o :: os, .cons h t => by
    rw [dp_oD h, dpall_oD t]
    rfl
theorem flat_oV (os : List (Option Nat)) : (os.map oV).all flatV = true := by
  rw [List.all_map, List.all_eq_true]
  intro o _
  cases o <;> rfl
theorem eqV_oV (a b : Option Nat) : eqV (oV a) (oV b) = decide (a = b) := by
  cases a with
  | none => cases b <;> rfl
  | some n =>
    cases b with
    | none => rfl
    | some m =>
      show ((n : Int) == (m : Int)) = decide (some n = some m)
      by_cases h : n = m
      · subst h; simp
      · rw [decide_eq_false (fun q => h (Option.some.inj q)), beq_eq_false_iff_ne]
        exact fun q => h (Int.ofNat.inj q)
theorem inV_oV (o : Option Nat) : ∀ os : List (Option Nat), inV (oV o) (os.map oV) = decide (o ∈ os)
  | [] => by simp [inV]
  | a :: os => by
    have ih := inV_oV o os
    unfold inV at ih ⊢
    rw [List.map_cons, List.any_cons, ih, eqV_oV]
    by_cases h : a = o
    · subst h; simp
    · have : ¬ o = a := fun q => h q.symm
      simp [h, this]
theorem ev_inT {neg : Bool} {o : Option Nat} {os : List (Option Nat)} (ha : Ev K M ta σ G (oD o)) (hb : Ev K M tb σ G (.tuple (os.map oD))) : Ev K M (tOp (rIn K neg) ta tb) σ G (.bool (if neg then !decide (o ∈ os) else decide (o ∈ os))) := by
  have fo : flatV (oV o) = true := by cases o <;> rfl
  refine ev_op ha hb fun x y G1 Q s dj hx hy q => ?_
  obtain ⟨a, xs, rfl, h1, h2⟩ := dp_tup hy
  rw [dp_oD hx]
  rw [dpall_oD h2] at h1
  refine ⟨a, os.map oV, rfl, .inr (sq_jnT dj h1), fo, flat_oV os, ?_⟩
  rw [inV_oV]
  exact q _ G1 (Same.refl _) dj (.bl _)
theorem ev_inL {neg : Bool} {o : Option Nat} {os : List (Option Nat)} (ha : Ev K M ta σ G (oD o)) (hb : EvS K M tb σ G (os.map oD)) : Ev K M (tOp (rIn K neg) ta tb) σ G (.bool (if neg then !decide (o ∈ os) else decide (o ∈ os))) := fun G1 s dj Q q =>
  ha G1 s dj _ fun x G2 s2 dj2 hx => hb G2 (s.trans s2) dj2 _ fun p xs G3 s3 dj3 hp hd => by
  have fo : flatV (oV o) = true := by cases o <;> rfl
  rw [dp_oD hx]
  rw [dpall_oD hd] at hp
  refine ⟨p, os.map oV, rfl, .inl hp, fo, flat_oV os, ?_⟩
  rw [inV_oV]
  exact q _ G3 (s2.trans s3) dj3 (.bl _)
def nD (n : Nat) : PyData := .int (n : Nat)
theorem map_oD (ns : List Nat) : (ns.map some).map oD = ns.map nD := by
  rw [List.map_map]
  rfl
theorem in_some {n : Nat} {ns : List Nat} : decide (some n ∈ ns.map some) = decide (n ∈ ns) := decide_eq_decide.mpr (by simp)
theorem ev_inNT {neg : Bool} {n : Nat} {ns : List Nat} (ha : Ev K M ta σ G (nD n)) (hb : Ev K M tb σ G (.tuple (ns.map nD))) : Ev K M (tOp (rIn K neg) ta tb) σ G (.bool (if neg then !decide (n ∈ ns) else decide (n ∈ ns))) := by
  rw [← map_oD] at hb
  have := ev_inT (neg := neg) (o := some n) ha hb
  rw [in_some] at this
  exact this
theorem ev_inNL {neg : Bool} {n : Nat} {ns : List Nat} (ha : Ev K M ta σ G (nD n)) (hb : EvS K M tb σ G (ns.map nD)) : Ev K M (tOp (rIn K neg) ta tb) σ G (.bool (if neg then !decide (n ∈ ns) else decide (n ∈ ns))) := by
  rw [← map_oD] at hb
  have := ev_inL (neg := neg) (o := some n) ha hb
  rw [in_some] at this
  exact this
end
end Lw
/-! text K3 -/
set_option Elab.async false
set_option linter.all false
set_option maxRecDepth 100000
set_option maxHeartbeats 2000000
namespace Lw
open PySem PySem.Spec PyProof.Rows L2
/-! ### promises over data -/
/-- called with data ds, it hands back data d with R ds d; all that stood stands -/
def Pr (K : PySem.W.Frag) (R : List PyData → PyData → Prop) : Sp := fun vs H Q _ => ∃ ds d, DpAll K H vs ds ∧ R ds d ∧ ∀ v H', Same H H' → Dp K H' v d → Q v H'
/-- or raises the class at C -/
def PrX (K : PySem.W.Frag) (C : Addr) (R : List PyData → Option PyData → Prop) : Sp := fun vs H Q E => ∃ ds o, DpAll K H vs ds ∧ R ds o ∧ (∀ d, o = some d → ∀ v H', Same H H' → Dp K H' v d → Q v H') ∧ (o = none → ∀ H', Same H H' → E (.ref C) none H')
/-- a def's parameters -/
def psOf (fd : FuncData) : List Str := fd.params.args.map (·.arg)
/-- a def of the text under its name -/
structure Dn (K : PySem.W.Frag) (mg : Str → Option Value) (x : Str) (st : Stmt) (ps : List Str) : Prop where
  ex : ∃ (f : Addr) (fd : FuncData), FunD K x x (defArgs st) (defBody st) (defScope st) [] [] f fd ∧ mg x = some (.ref f) ∧ Binds K fd ps [] ∧ psOf fd = ps
/-- the def's own object -/
def KpF (K : PySem.W.Frag) (f : Addr) (fd : FuncData) (ps : List Str) : Prop := PySem.W.keepIn K (.ref f) = true ∧ psOf fd = ps ∧ ∃ oc od osl, K.lookup f = some ⟨oc, od, .func fd, osl⟩
theorem kpF {K : PySem.W.Frag} {x q : Str} {pa : Arguments} {bo : List Stmt} {sc : Scope} {dvs : List V} {kws : List (Str × V)} {f : Addr} {fd : FuncData} {ps : List Str} (F : FunD K x q pa bo sc dvs kws f fd) (e : psOf fd = ps) : KpF K f fd ps := by
  refine ⟨F.kp, e, ?_⟩
  obtain ⟨oc, od, dV, kV, doc, pm, an, cdv, ct, osl, _, lk, _⟩ := F.ex
  exact ⟨oc, od, osl, lk⟩
/-- it may be called by its name -/
structure Cal (P : Program) (w : World) (K : PySem.W.Frag) (mg : Str → Option Value) (base : Heap) (k : Nat) (x : Str) (sp : Sp) : Prop where
  ex : ∃ (f : Addr) (fd : FuncData) (ps : List Str), FnOk P w K mg base CX0 k f fd ps sp ∧ mg x = some (.ref f) ∧ KpF K f fd ps ∧ Binds K fd ps []
structure CalX (P : Program) (w : World) (K : PySem.W.Frag) (mg : Str → Option Value) (base : Heap) (k : Nat) (x : Str) (sp : Sp) : Prop where
  ex : ∃ (f : Addr) (fd : FuncData) (ps : List Str), FnOk P w K mg base (L2.CX P w) k f fd ps sp ∧ mg x = some (.ref f) ∧ KpF K f fd ps ∧ Binds K fd ps []
section
variable {P : Program} {w : World} {K : PySem.W.Frag} {mg : Str → Option Value} {base : Heap} {x : Str} {st : Stmt} {N ps : List Str} {k : Nat} {sp : Sp}
theorem Dn.cal (D : Dn K mg x st ps) (S : FnScope N ps (defScope st)) (len : ∀ vs H Q E, sp vs H Q E → vs.length = ps.length)
    (hbody : ∀ (f : Addr) (cdv : Value) (A : Around) (outer : List Env) (s : Shared) (H : Hp) (vs : List V) (Q : VK) (E : XK), Room k (A.deeper (envOfC x (defScope st) s.heap.objs.size f cdv)) → sp vs H Q E →
      ∃ t, PSs (cxOf CX0 P w K mg base N x (defScope st) f cdv A outer s H E).nox (defBody st) t ∧ t { nx := fun _ H' => Q .non H', rt := Q } (start N vs) H) : Cal P w K mg base (k + 1) x sp := by
  obtain ⟨f, fd, F, m, b, ep⟩ := D.ex
  exact ⟨f, fd, ps, F.ok S len fun cdv A outer s H vs Q E hr h => by
    obtain ⟨t, h1, h2⟩ := hbody f cdv A outer s H vs Q E hr h
    exact ⟨t, h1.nox, h2⟩, m, kpF F ep, b⟩
theorem Dn.pr {R : List PyData → PyData → Prop} (D : Dn K mg x st ps) (S : FnScope N ps (defScope st)) (hl : ∀ ds d, R ds d → ds.length = ps.length)
    (hbody : ∀ (f : Addr) (cdv : Value) (A : Around) (outer : List Env) (s : Shared) (H : Hp) (E : XK) (vs : List V) (ds : List PyData) (d : PyData), Room k (A.deeper (envOfC x (defScope st) s.heap.objs.size f cdv)) → R ds d → DpAll K H vs ds →
      ∃ t, PSs (cxOf CX0 P w K mg base N x (defScope st) f cdv A outer s H E).nox (defBody st) t ∧ ∀ Q : VK, (∀ v H', Same H H' → Dp K H' v d → Q v H') → t { nx := fun _ H' => Q .non H', rt := Q } (start N vs) (jn H [])) : Cal P w K mg base (k + 1) x (Pr K R) := by
  refine D.cal S (fun vs H Q E h => ?_) (fun f cdv A outer s H vs Q E hr h => ?_)
  · obtain ⟨ds, d, h1, h2, _⟩ := h
    rw [h1.len]
    exact hl ds d h2
  · obtain ⟨ds, d, h1, h2, h3⟩ := h
    obtain ⟨t, k1, k2⟩ := hbody f cdv A outer s H E vs ds d hr h2 h1
    exact ⟨t, k1, k2 Q h3⟩
theorem Dn.calX (D : Dn K mg x st ps) (S : FnScope N ps (defScope st)) (len : ∀ vs H Q E, sp vs H Q E → vs.length = ps.length)
    (hbody : ∀ (f : Addr) (cdv : Value) (A : Around) (outer : List Env) (s : Shared) (H : Hp) (vs : List V) (Q : VK) (E : XK), Room k (A.deeper (envOfC x (defScope st) s.heap.objs.size f cdv)) → sp vs H Q E →
      ∃ t, PSs (cxOf (L2.CX P w) P w K mg base N x (defScope st) f cdv A outer s H E) (defBody st) t ∧ t { nx := fun _ H' => Q .non H', rt := Q } (start N vs) H) : CalX P w K mg base (k + 1) x sp := by
  obtain ⟨f, fd, F, m, b, ep⟩ := D.ex
  exact ⟨f, fd, ps, F.ok S len fun cdv A outer s H vs Q E hr h => hbody f cdv A outer s H vs Q E hr h, m, kpF F ep, b⟩
end
section
variable {X : Cx} {k j : Nat} {x : Str} {sp : Sp} {p pos : Pos} {e : Expr} {es : List Expr} {t : TA}
theorem pe_ca (c : Cal X.prog X.w X.K X.mg X.base k x sp) (hr : Room j X.A) (hk : k ≤ j) (hg : Gl X x) (ha : PA X (e :: es) t)
    (hdb : (x == ("__debug__" : Str)) = false := by decide) (he : starEach (e :: es) X.env = (false, eval e X.env) :: starEach es X.env := by rfl) (hpl : (backTo pos (starEach es X.env)).any (·.1) = false := by rfl) :
    PE X (.Call (.Name x p) (e :: es) [] pos) (tCall (fr_ sp) [] L2.E0 t) := by
  obtain ⟨f, fd, ps, F, hm, kp, b⟩ := c.ex
  exact pe_call (FnOk.frame F) (hr.mono hk) hg hm kp.1 b .nil L2.pass0 ha hdb he hpl
theorem pe_ca0 (c : Cal X.prog X.w X.K X.mg X.base k x sp) (hr : Room j X.A) (hk : k ≤ j) (hg : Gl X x)
    (hdb : (x == ("__debug__" : Str)) = false := by decide) : PE X (.Call (.Name x p) [] [] pos) (tCall (fr_ sp) [] L2.E0 tNil) := by
  obtain ⟨f, fd, ps, F, hm, kp, b⟩ := c.ex
  exact pe_call0 (FnOk.frame F) (hr.mono hk) hg hm kp.1 b .nil L2.pass0 hdb
end
section
variable {K : PySem.W.Frag} {M : Mh} {σ : L2.St} {G G' : Hp} {ta tb tc te : TE} {t u : TT} {d e : PyData} {ds es : List PyData} {i j : Int} {b c : Bool}
theorem ev_call {R : List PyData → PyData → Prop} {ta : TA} {E : XK} (ha : EvA K M ta σ G ds) (hR : R ds d) : Ev K M (tCall (fr_ (Pr K R)) [] E ta) σ G d := fun G1 s dj Q q => ha G1 s dj _ fun vs G2 s2 dj2 hv =>
  ⟨G2, M, rfl, dj2, ds, d, by rw [List.append_nil]; exact hv, hR, fun v H' s3 hd dj3 => q v H' (s2.trans s3) dj3 hd⟩
/-! ### built-ins -/
abbrev rLenQ (K : PySem.W.Frag) : List V → Hp → VK → Prop := fun xs H Q => ∃ p ys, xs = [.ref p] ∧ (SqL K H p ys ∨ SqT K H p ys) ∧ Q (.int ys.length) H
theorem ev_lenT (ha : Ev K M ta σ G (.tuple ds)) : Ev K M (tCB (rLenQ K) (tCons ta tNil)) σ G (nD ds.length) := fun G1 s dj Q q => ha G1 s dj _ fun v G2 s2 dj2 hv => by
  obtain ⟨p, xs, rfl, h1, h2⟩ := dp_tup hv
  refine ⟨p, xs, rfl, .inr (sq_jnT dj2 h1), ?_⟩
  rw [h2.len]
  exact q _ G2 s2 dj2 (.int _)
theorem ev_lenL (ha : EvS K M ta σ G ds) : Ev K M (tCB (rLenQ K) (tCons ta tNil)) σ G (nD ds.length) := fun G1 s dj Q q => ha G1 s dj _ fun p xs G2 s2 dj2 h1 h2 => by
  refine ⟨p, xs, rfl, .inl h1, ?_⟩
  rw [h2.len]
  exact q _ G2 s2 dj2 (.int _)
theorem ev_all {bs : List Bool} (ha : EvS K M ta σ G (bs.map PyData.bool)) : Ev K M (tCB (rAll K) (tCons ta tNil)) σ G (.bool (bs.all id)) := fun G1 s dj Q q => ha G1 s dj _ fun p xs G2 s2 dj2 h1 h2 => by
  rw [h2.bls] at h1
  exact ⟨p, bs, rfl, h1, q _ G2 s2 dj2 (.bl _)⟩
theorem ev_any {bs : List Bool} (ha : EvS K M ta σ G (bs.map PyData.bool)) : Ev K M (tCB (rAny K) (tCons ta tNil)) σ G (.bool (bs.any id)) := fun G1 s dj Q q => ha G1 s dj _ fun p xs G2 s2 dj2 h1 h2 => by
  rw [h2.bls] at h1
  exact ⟨p, bs, rfl, h1, q _ G2 s2 dj2 (.bl _)⟩
abbrev rTupOf (K : PySem.W.Frag) : List V → Hp → VK → Prop := fun xs H Q => ∃ p ys, xs = [.ref p] ∧ ((SqL K H p ys ∧ ∀ l, H l = none → Q (.ref l) (upd H l (.tup ys))) ∨ (SqT K H p ys ∧ Q (.ref p) H))
theorem ev_tupOf (ha : EvS K M ta σ G ds) : Ev K M (tCB (rTupOf K) (tCons ta tNil)) σ G (.tuple ds) := fun G1 s dj Q q => ha G1 s dj _ fun p xs G2 s2 dj2 h1 h2 =>
  ⟨p, xs, rfl, .inl ⟨h1, fun l hl => by
    have n := jn_none hl
    rw [jn_new hl]
    exact q _ _ (s2.trans (same_new n.2)) (dj_new dj2 hl) (.tup (.of upd_same) (h2.mono (same_new n.2)))⟩⟩
abbrev rLstOf (K : PySem.W.Frag) : List V → Hp → VK → Prop := fun xs H Q => ∃ p ys, xs = [.ref p] ∧ (SqL K H p ys ∨ SqT K H p ys) ∧ ∀ l, H l = none → Q (.ref l) (upd H l (.lst ys))
theorem evm_lstOf (ha : EvS K M ta σ G ds) : EvM K M (tCB (rLstOf K) (tCons ta tNil)) σ G ds := fun G1 s dj Q q => ha G1 s dj _ fun p xs G2 s2 dj2 h1 h2 => ⟨p, xs, rfl, .inl h1, to_new s2 dj2 h2 q⟩
theorem evm_lstOfT (ha : Ev K M ta σ G (.tuple ds)) : EvM K M (tCB (rLstOf K) (tCons ta tNil)) σ G ds := fun G1 s dj Q q => ha G1 s dj _ fun v G2 s2 dj2 hv => by
  obtain ⟨p, xs, rfl, h1, h2⟩ := dp_tup hv
  exact ⟨p, xs, rfl, .inr (sq_jnT dj2 h1), to_new s2 dj2 h2 q⟩
abbrev rInt1 : List V → Hp → VK → Prop := fun xs H Q => (∃ i, xs = [.int i] ∧ Q (.int i) H) ∨ ∃ k, xs = [.bl k] ∧ Q (.int (if k then 1 else 0)) H
theorem ev_int1 (ha : Ev K M ta σ G (.int i)) : Ev K M (tCB rInt1 (tCons ta tNil)) σ G (.int i) := fun G1 s dj Q q => ha G1 s dj _ fun v G2 s2 dj2 hv => by
  cases hv
  exact .inl ⟨i, rfl, q _ G2 s2 dj2 (.int _)⟩
theorem ev_intB (ha : Ev K M ta σ G (.bool b)) : Ev K M (tCB rInt1 (tCons ta tNil)) σ G (.int (if b then 1 else 0)) := fun G1 s dj Q q => ha G1 s dj _ fun v G2 s2 dj2 hv => by
  cases hv
  exact .inr ⟨b, rfl, q _ G2 s2 dj2 (.int _)⟩
abbrev rAbs : List V → Hp → VK → Prop := fun xs H Q => ∃ i, xs = [.int i] ∧ Q (.int (if i < 0 then -i else i)) H
theorem ev_abs (ha : Ev K M ta σ G (.int i)) : Ev K M (tCB rAbs (tCons ta tNil)) σ G (.int (if i < 0 then -i else i)) := fun G1 s dj Q q => ha G1 s dj _ fun v G2 s2 dj2 hv => by
  cases hv
  exact ⟨i, rfl, q _ G2 s2 dj2 (.int _)⟩
abbrev rMax2 : List V → Hp → VK → Prop := fun xs H Q => ∃ i j, xs = [.int i, .int j] ∧ Q (.int (if j > i then j else i)) H
abbrev rMin2 : List V → Hp → VK → Prop := fun xs H Q => ∃ i j, xs = [.int i, .int j] ∧ Q (.int (if j < i then j else i)) H
theorem ev_max2 (ha : Ev K M ta σ G (.int i)) (hb : Ev K M tb σ G (.int j)) : Ev K M (tCB rMax2 (tCons ta (tCons tb tNil))) σ G (.int (if j > i then j else i)) := fun G1 s dj Q q => ha G1 s dj _ fun v G2 s2 dj2 hv => hb G2 (s.trans s2) dj2 _ fun y G3 s3 dj3 hy => by
  cases hv
  cases hy
  exact ⟨i, j, rfl, q _ G3 (s2.trans s3) dj3 (.int _)⟩
theorem ev_min2 (ha : Ev K M ta σ G (.int i)) (hb : Ev K M tb σ G (.int j)) : Ev K M (tCB rMin2 (tCons ta (tCons tb tNil))) σ G (.int (if j < i then j else i)) := fun G1 s dj Q q => ha G1 s dj _ fun v G2 s2 dj2 hv => hb G2 (s.trans s2) dj2 _ fun y G3 s3 dj3 hy => by
  cases hv
  cases hy
  exact ⟨i, j, rfl, q _ G3 (s2.trans s3) dj3 (.int _)⟩
/-! isinstance -/
def tyD : PyData → String
  | .none => "NoneType"
  | .bool _ => "bool"
  | .int _ => "int"
  | .str _ => "str"
  | .list _ => "list"
  | .tuple _ => "tuple"
  | .dict _ => "dict"
theorem ty_dp {H : Hp} {v : V} (h : Dp K H v d) : TyX K H v (.type (tyD d)) := by
  cases h with
  | non => exact .base .non
  | bl b => exact .base (.bl b)
  | int i => exact .base (.int i)
  | str x => exact .base (.str x)
  | lst h1 _ =>
    rcases h1 with (h | ⟨o, h⟩) | ⟨o, its, n, hk, hc, _⟩
    · exact .base (.lst h)
    · exact .base (.frz h)
    · exact .kList hk hc
  | tup h1 _ =>
    rcases h1 with (h | ⟨o, h⟩) | ⟨o, its, n, hk, hc, _⟩
    · exact .base (.tup h)
    · exact .fTuple h
    · exact .kTuple hk hc
theorem ev_isi {C : String} (ha : EvJ K M ta σ G d) (hk : kitB (tyD d) C = some b) : Ev K M (tCB (rIsi K) (tCons ta (tCons (tC (.ty C)) tNil))) σ G (.bool b) := fun G1 s dj Q q => ha G1 s dj _ fun v G2 s2 dj2 hv =>
  ⟨v, .ty C, .type (tyD d), .type C, b, rfl, .ty C, ty_dp hv, kit_ty hk, q _ G2 s2 dj2 (.bl _)⟩
theorem ev_isi2 {C D : String} {c1 c2 : Bool} (ha : EvJ K M ta σ G d) (hk1 : kitB (tyD d) C = some c1) (hk2 : kitB (tyD d) D = some c2) (hb : b = (c1 || c2)) :
    Ev K M (tCB (rIsiT K) (tCons ta (tCons (tTup (tCons (tC (.ty C)) (tCons (tC (.ty D)) tNil))) tNil))) σ G (.bool b) := fun G1 s dj Q q => ha G1 s dj _ fun v G2 s2 dj2 hv =>
  ⟨by show 2 ≤ sizeLine; decide, fun p hp => by
    have n := jn_none hp
    have hv2 : Dp K (upd (jn G2 M) p (.tup [.ty C, .ty D])) v d := hv.mono (same_new hp)
    refine ⟨v, p, [.ty C, .ty D], .type (tyD d), [.type C, .type D], b, rfl, upd_same, .cons (.ty C) (.cons (.ty D) .nil), ty_dp hv2, ?_, ?_⟩
    · subst hb
      refine kitAny_cons (kit_ty hk1) (fun e => ?_) (fun e => by rw [e]; rfl)
      rw [e, Bool.false_or]
      exact kitAny_cons (kit_ty hk2) (fun e => by rw [e]; exact kitAny_nil) (fun e => e)
    · rw [jn_new hp]
      exact q _ _ (s2.trans (same_new n.2)) (dj_new dj2 hp) (.bl _)⟩
/-! ### what is walked -/
structure ItD (K : PySem.W.Frag) (J : It) (G : Hp) (ds : List PyData) (Ok : Mh → Prop) : Prop where
  go : ∀ i G3 M3, i < ds.length → Same G G3 → Dj G3 M3 → Ok M3 → J.go i (jn G3 M3)
  stop : ∀ G3 M3, Same G G3 → Dj G3 M3 → Ok M3 → J.stop ds.length (jn G3 M3)
  yld : ∀ i G3 M3 x H', i < ds.length → Same G G3 → Dj G3 M3 → Ok M3 → J.yld i (jn G3 M3) x H' → ∃ G4 d, H' = jn G4 M3 ∧ Same G3 G4 ∧ Dj G4 M3 ∧ ds[i]? = some d ∧ Dp K G4 x d
def EvI (K : PySem.W.Frag) (M : Mh) (wi : TI) (σ : L2.St) (G : Hp) (ds : List PyData) (Ok : Mh → Prop) : Prop := ∀ G1, Same G G1 → Dj G1 M → ∀ R : It → Hp → Prop, (∀ J G2, Same G1 G2 → Dj G2 M → ItD K J G2 ds Ok → R J (jn G2 M)) → wi σ (jn G1 M) R
abbrev Any : Mh → Prop := fun _ => True
theorem itd_seq {J : It} {G2 : Hp} {a : Addr} {xs : List V} {Ok : Mh → Prop} {S : Hp → Prop} (wk : Walk J xs.length S (YAt xs)) (hd : DpAll K G2 xs ds) (hS : ∀ G3 M3, Same G2 G3 → Dj G3 M3 → Ok M3 → S (jn G3 M3)) : ItD K J G2 ds Ok := by
  refine ⟨fun i G3 M3 hi s dj ok => ?_, fun G3 M3 s dj ok => ?_, fun i G3 M3 x H' hi s dj ok y => ?_⟩
  · rw [← hd.len] at hi
    exact wk.goes i _ hi (hS G3 M3 s dj ok)
  · rw [← hd.len]
    exact wk.stops _ (hS G3 M3 s dj ok)
  · rw [← hd.len] at hi
    obtain ⟨e1, e2⟩ := wk.yields i _ x H' hi (hS G3 M3 s dj ok) y
    obtain ⟨d, h1, h2⟩ := (hd.mono s).get' e2
    exact ⟨G3, d, e1, Same.refl _, dj, h1, h2⟩
theorem ei_list (h : Ev K M te σ G (.list ds)) : EvI K M (iList K te) σ G ds Any := fun G1 s dj R r => h G1 s dj _ fun v G2 s2 dj2 hv => by
  obtain ⟨p, xs, rfl, h1, h2⟩ := dp_lst hv
  exact ⟨p, rfl, ⟨xs, sq_jnL dj2 h1⟩, r _ G2 s2 dj2 (itd_seq (a := p) (walk_list (K := K) (a := p)) h2 fun G3 M3 s3 dj3 _ => sq_jnL dj3 (s3.seq h1))⟩
theorem ei_tup (h : Ev K M te σ G (.tuple ds)) : EvI K M (iTup K te) σ G ds Any := fun G1 s dj R r => h G1 s dj _ fun v G2 s2 dj2 hv => by
  obtain ⟨p, xs, rfl, h1, h2⟩ := dp_tup hv
  exact ⟨p, rfl, ⟨xs, sq_jnT dj2 h1⟩, r _ G2 s2 dj2 (itd_seq (a := p) (walk_tup (K := K) (a := p)) h2 fun G3 M3 s3 dj3 _ => sq_jnT dj3 (seqT s3 h1))⟩
theorem ei_mlist {i : Nat} {a : Addr} {xs : List V} (h : σ[i]? = some (some (.ref a))) (hm : M.lookup a = some xs) (hd : DpAll K G xs ds) : EvI K M (iList K (tVar i)) σ G ds (fun M3 => M3.lookup a = some xs) := fun G1 s dj R r =>
  ⟨.ref a, h, a, rfl, ⟨xs, .of (jn_in hm)⟩, r _ G1 (Same.refl _) dj (itd_seq (a := a) (walk_list (K := K) (a := a)) (hd.mono s) fun G3 M3 s3 dj3 ok => .of (jn_in ok))⟩
def rgD (n : Nat) : List PyData := (List.range n).map nD
theorem rgD_len (n : Nat) : (rgD n).length = n := by unfold rgD; rw [List.length_map, List.length_range]
theorem rgD_at {n i : Nat} (h : i < n) : (rgD n)[i]? = some (nD i) := by
  unfold rgD
  rw [List.getElem?_map, List.getElem?_range h]
  rfl
theorem ei_rng {n : Nat} (h : Ev K M te σ G (nD n)) (hn : n ≤ 100000) : EvI K M (iRng1 (tCons te tNil)) σ G (rgD n) Any := fun G1 s dj R r => h G1 s dj _ fun v G2 s2 dj2 hv => by
  cases hv
  refine ⟨(n : Int), rfl, by omega, by omega, r _ G2 s2 dj2 ⟨fun i G3 M3 hi _ _ _ => ?_, fun G3 M3 _ _ _ => ?_, fun i G3 M3 x H' hi s3 dj3 _ y => ?_⟩⟩
  · rw [rgD_len] at hi
    show i < (n : Int).toNat
    omega
  · show (n : Int).toNat ≤ (rgD n).length
    rw [rgD_len]
    omega
  · rw [rgD_len] at hi
    obtain ⟨e1, e2⟩ := y
    refine ⟨G3, nD i, e1, Same.refl _, dj3, rgD_at hi, ?_⟩
    rw [e2, show (0 : Int) + (i : Nat) = ((i : Nat) : Int) by omega]
    exact .int _
/-- a target's reading grows with what is wanted -/
def MonoG (g : TG) : Prop := ∀ (x : V) (σ : L2.St) (H : Hp) (Q1 Q2 : L2.St → Hp → Prop), (∀ a b, Q1 a b → Q2 a b) → g x σ H Q1 → g x σ H Q2
def MonoGs (g : TGs) : Prop := ∀ (x : List V) (σ : L2.St) (H : Hp) (Q1 Q2 : L2.St → Hp → Prop), (∀ a b, Q1 a b → Q2 a b) → g x σ H Q1 → g x σ H Q2
theorem mono_name (i : Nat) : MonoG (gName i) := fun _ _ _ _ _ h q => h _ _ q
theorem mono_nil : MonoGs gNil := fun _ _ _ _ _ h q => ⟨q.1, h _ _ q.2⟩
theorem mono_cons {g : TG} {gs : TGs} (h1 : MonoG g) (h2 : MonoGs gs) : MonoGs (gCons g gs) := fun x σ H Q1 Q2 h q => by
  obtain ⟨v, r, e, q⟩ := q
  exact ⟨v, r, e, h1 v σ H _ _ (fun a b z => h2 r a b _ _ h z) q⟩
theorem mono_tup {n : Nat} {gs : TGs} (h : MonoGs gs) : MonoG (gTup K n gs) := fun x σ H Q1 Q2 hq q => by
  obtain ⟨a, xs, e1, e2, e3, q⟩ := q
  exact ⟨a, xs, e1, e2, e3, h xs σ H _ _ hq q⟩
theorem mono_two (i k : Nat) : MonoG (gTup K 2 (gCons (gName i) (gCons (gName k) gNil))) := mono_tup (mono_cons (mono_name i) (mono_cons (mono_name k) mono_nil))
/-- a pair told apart -/
theorem g_two {i k : Nat} {x : V} {d1 d2 : PyData} {Q : L2.St → Hp → Prop} (dj : Dj G M) (h : Dp K G x (.tuple [d1, d2])) (q : ∀ v1 v2, Dp K G v1 d1 → Dp K G v2 d2 → Q ((σ.set i (some v1)).set k (some v2)) (jn G M)) :
    gTup K 2 (gCons (gName i) (gCons (gName k) gNil)) x σ (jn G M) Q := by
  obtain ⟨a, xs, rfl, h1, h2⟩ := dp_tup h
  cases h2 with
  | cons k1 h2 => cases h2 with
    | cons k2 h2 =>
      cases h2
      exact ⟨a, _, rfl, sq_jnT dj h1, rfl, _, _, rfl, _, _, rfl, rfl, q _ _ k1 k2⟩
/-- [e for x in .. if ..] -/
theorem evm_lc {α : Type} (l : List α) (e1 : α → PyData) (p : α → Bool) (h : α → PyData) {wi : TI} {g : TG} {tt : TT} {vs : List Nat} {Ok : Mh → Prop} (hm : MonoG g) (hI : EvI K M wi σ G (l.map e1) Ok) (hOk : ∀ D acc, M.lookup D = none → Ok ((D, acc) :: M)) (hl : l.length ≤ 100000)
    (hb : ∀ a ∈ l, ∀ D acc, M.lookup D = none → ∀ G1 x, Same G G1 → Dj G1 ((D, acc) :: M) → Dp K G1 x (e1 a) → g x (wipe σ vs) (jn G1 ((D, acc) :: M)) fun σ2 H2 => ∃ G2, H2 = jn G2 ((D, acc) :: M) ∧ Same G1 G2 ∧ Dj G2 ((D, acc) :: M) ∧ wipe σ2 vs = wipe σ vs ∧
      EvB ((D, acc) :: M) tt σ2 G2 (p a) ∧ (p a = true → Ev K ((D, acc) :: M) te σ2 G2 (h a))) : EvM K M (tLc wi g tt te vs) σ G ((l.filter p).map h) := fun G1 s dj Q q => hI G1 s dj _ fun J G2 s2 dj2 it => by
  have hlen : (l.map e1).length = l.length := List.length_map _
  intro D hD
  have n := jn_none hD
  refine ⟨fun i m H => m = l.length - i ∧ i ≤ l.length ∧ ∃ G3 acc, H = jn G3 ((D, acc) :: M) ∧ Same G2 G3 ∧ Dj G3 ((D, acc) :: M) ∧ DpAll K G3 acc (((l.take i).filter p).map h), ⟨l.length, by simp, Nat.zero_le _, G2, [], by rw [jn_put], Same.refl _, dj_put dj2 n.2, .nil⟩, ?_⟩
  rintro i m H ⟨rfl, hi, G3, acc, rfl, s3, dj3, hacc⟩
  by_cases hlt : i < l.length
  · refine .inr ⟨it.go i G3 _ (by rw [hlen]; exact hlt) s3 dj3 (hOk D acc n.1), fun H' => ∃ G4 acc', H' = jn G4 ((D, acc') :: M) ∧ Same G2 G4 ∧ Dj G4 ((D, acc') :: M) ∧ DpAll K G4 acc' (((l.take (i + 1)).filter p).map h), fun H' ⟨G4, acc', z1, z2, z3, z4⟩ => ⟨l.length - (i + 1), by omega, rfl, hlt, G4, acc', z1, z2, z3, z4⟩, fun x H' y => ?_⟩
    obtain ⟨G4, d, rfl, s4, dj4, hd1, hd2⟩ := it.yld i G3 _ x H' (by rw [hlen]; exact hlt) s3 dj3 (hOk D acc n.1) y
    have ha : l[i]? = some l[i] := List.getElem?_eq_getElem hlt
    rw [List.getElem?_map, ha] at hd1
    cases hd1
    have et : l.take (i + 1) = l.take i ++ [l[i]] := by rw [List.take_succ, ha]; rfl
    have B := hb l[i] (List.getElem_mem hlt) D acc n.1 G4 x ((s.trans s2).trans (s3.trans s4)) dj4 hd2
    refine hm x _ _ _ _ (fun σ2 H2 z => ?_) B
    obtain ⟨G5, rfl, s5, dj5, hw, hT, hE⟩ := z
    refine ⟨hw, hT G5 (Same.refl _) dj5 _ fun G6 s6 dj6 => ?_⟩
    cases hp : p l[i] with
    | true =>
      refine iteT (hE hp G6 s6 dj6 _ fun y G7 s7 dj7 hy => ⟨acc, jn_mine, ?_, ?_⟩)
      · rw [hacc.len, List.length_map]
        have := List.length_filter_le p (l.take i)
        rw [List.length_take] at this
        exact Nat.lt_of_lt_of_le (by omega : _ < 100001) (by decide)
      · refine ⟨G7, acc ++ [y], jn_set _ _ _ _ _, s3.trans (s4.trans (s5.trans (s6.trans s7))), dj_set dj7, ?_⟩
        rw [et, List.filter_append, List.filter_cons_of_pos hp, List.map_append]
        exact (hacc.mono (s4.trans (s5.trans (s6.trans s7)))).app (.one hy)
    | false =>
      refine iteF ⟨G6, acc, rfl, s3.trans (s4.trans (s5.trans s6)), dj6, ?_⟩
      rw [et, List.filter_append, List.filter_cons_of_neg (by rw [hp]; simp), List.filter_nil, List.append_nil]
      exact hacc.mono (s4.trans (s5.trans s6))
  · have e : i = l.length := by omega
    subst e
    refine .inl ⟨by rw [← hlen]; exact it.stop G3 _ s3 dj3 (hOk D acc n.1), ?_⟩
    rw [List.take_length] at hacc
    exact q D acc G3 (s2.trans s3) n.1 dj3 hacc
/-- the same, the target a name -/
theorem evm_lcNk {α : Type} (l : List α) (e1 : α → PyData) (p : α → Bool) (h : α → PyData) {wi : TI} {i : Nat} {tt : TT} {vs : List Nat} {Ok : Mh → Prop} (hI : EvI K M wi σ G (l.map e1) Ok) (hOk : ∀ D acc, M.lookup D = none → Ok ((D, acc) :: M)) (hl : l.length ≤ 100000)
    (hb : ∀ a ∈ l, ∀ D acc, M.lookup D = none → ∀ G1 x, Same G G1 → Dj G1 ((D, acc) :: M) → Dp K G1 x (e1 a) → wipe ((wipe σ vs).set i (some x)) vs = wipe σ vs ∧ EvB ((D, acc) :: M) tt ((wipe σ vs).set i (some x)) G1 (p a) ∧ (p a = true → Ev K ((D, acc) :: M) te ((wipe σ vs).set i (some x)) G1 (h a))) :
    EvM K M (tLc wi (gName i) tt te vs) σ G ((l.filter p).map h) := evm_lc l e1 p h (mono_name i) hI hOk hl fun a ha D acc hD G1 x s dj hx => by
  obtain ⟨z1, z2, z3⟩ := hb a ha D acc hD G1 x s dj hx
  exact ⟨G1, rfl, Same.refl _, dj, z1, z2, z3⟩
/-- [e for x in ..] -/
theorem evm_lcAk {α : Type} (l : List α) (e1 : α → PyData) (h : α → PyData) {wi : TI} {i : Nat} {vs : List Nat} {Ok : Mh → Prop} (hI : EvI K M wi σ G (l.map e1) Ok) (hOk : ∀ D acc, M.lookup D = none → Ok ((D, acc) :: M)) (hl : l.length ≤ 100000)
    (hb : ∀ a ∈ l, ∀ D acc, M.lookup D = none → ∀ G1 x, Same G G1 → Dj G1 ((D, acc) :: M) → Dp K G1 x (e1 a) → wipe ((wipe σ vs).set i (some x)) vs = wipe σ vs ∧ Ev K ((D, acc) :: M) te ((wipe σ vs).set i (some x)) G1 (h a)) :
    EvM K M (tLc wi (gName i) tYes te vs) σ G (l.map h) := by
  have := evm_lcNk (te := te) (tt := tYes) (vs := vs) l e1 (fun _ => true) h hI hOk hl fun a ha D acc hD G1 x s dj hx => by
    obtain ⟨z1, z2⟩ := hb a ha D acc hD G1 x s dj hx
    exact ⟨z1, eb_yes, fun _ => z2⟩
  rw [List.filter_eq_self.mpr (fun _ _ => rfl)] at this
  exact this
theorem evm_lcN {α : Type} (l : List α) (e1 : α → PyData) (p : α → Bool) (h : α → PyData) {wi : TI} {i : Nat} {tt : TT} {vs : List Nat} (hI : EvI K M wi σ G (l.map e1) Any) (hl : l.length ≤ 100000)
    (hb : ∀ a ∈ l, ∀ D acc, M.lookup D = none → ∀ G1 x, Same G G1 → Dj G1 ((D, acc) :: M) → Dp K G1 x (e1 a) → wipe ((wipe σ vs).set i (some x)) vs = wipe σ vs ∧ EvB ((D, acc) :: M) tt ((wipe σ vs).set i (some x)) G1 (p a) ∧ (p a = true → Ev K ((D, acc) :: M) te ((wipe σ vs).set i (some x)) G1 (h a))) :
    EvM K M (tLc wi (gName i) tt te vs) σ G ((l.filter p).map h) := evm_lcNk l e1 p h hI (fun _ _ _ => trivial) hl hb
theorem evm_lcA {α : Type} (l : List α) (e1 : α → PyData) (h : α → PyData) {wi : TI} {i : Nat} {vs : List Nat} (hI : EvI K M wi σ G (l.map e1) Any) (hl : l.length ≤ 100000)
    (hb : ∀ a ∈ l, ∀ D acc, M.lookup D = none → ∀ G1 x, Same G G1 → Dj G1 ((D, acc) :: M) → Dp K G1 x (e1 a) → wipe ((wipe σ vs).set i (some x)) vs = wipe σ vs ∧ Ev K ((D, acc) :: M) te ((wipe σ vs).set i (some x)) G1 (h a)) :
    EvM K M (tLc wi (gName i) tYes te vs) σ G (l.map h) := evm_lcAk l e1 h hI (fun _ _ _ => trivial) hl hb
/-! ### statements -/
/-- what is to hold behind a turn -/
def Nx (G : Hp) (Pv : L2.St → Hp → Mh → Prop) : L2.St → Hp → Prop := fun σ H => ∃ G4 M4, H = jn G4 M4 ∧ Same G G4 ∧ Dj G4 M4 ∧ Pv σ G4 M4
theorem nx_of {Pv : L2.St → Hp → Mh → Prop} {G4 : Hp} {M4 : Mh} {σ4 : L2.St} (s : Same G G4) (dj : Dj G4 M4) (h : Pv σ4 G4 M4) : Nx G Pv σ4 (jn G4 M4) := ⟨G4, M4, rfl, s, dj, h⟩
theorem ef_for {wi : TI} {g : TG} {tb : TS} {D : Ends} (hI : EvI K M wi σ G ds Any) (Pv : Nat → L2.St → Hp → Mh → Prop) (dj : Dj G M) (h0 : ∀ G2, Same G G2 → Dj G2 M → Pv 0 σ G2 M) (hmono : ∀ i σ1 G3 G4 M3, Same G3 G4 → Pv i σ1 G3 M3 → Pv i σ1 G4 M3)
    (hs : ∀ G2, Same G G2 → ∀ i d σ1 G3 M3 x, ds[i]? = some d → Same G2 G3 → Dj G3 M3 → Pv i σ1 G3 M3 → Dp K G3 x d → g x σ1 (jn G3 M3) fun σ2 H2 => tb { D with nx := Nx G2 (Pv (i + 1)), ct := Nx G2 (Pv (i + 1)), bk := D.nx } σ2 H2)
    (hd : ∀ σ1 G3 M3, Same G G3 → Dj G3 M3 → Pv ds.length σ1 G3 M3 → D.nx σ1 (jn G3 M3)) : tFor wi g tb D σ (jn G M) := hI G (Same.refl _) dj _ fun J G2 s2 dj2 it => by
  refine ⟨fun i m σ H => m = ds.length - i ∧ i ≤ ds.length ∧ ∃ G3 M3, H = jn G3 M3 ∧ Same G2 G3 ∧ Dj G3 M3 ∧ Pv i σ G3 M3, ⟨ds.length, by simp, Nat.zero_le _, G2, M, rfl, Same.refl _, dj2, h0 G2 s2 dj2⟩, ?_⟩
  rintro i m σ1 H ⟨rfl, hi, G3, M3, rfl, s3, dj3, pv⟩
  by_cases hlt : i < ds.length
  · refine .inr ⟨it.go i G3 M3 hlt s3 dj3 trivial, fun σ' H' => ∃ G4 M4, H' = jn G4 M4 ∧ Same G2 G4 ∧ Dj G4 M4 ∧ Pv (i + 1) σ' G4 M4, fun σ' H' ⟨G4, M4, z1, z2, z3, z4⟩ => ⟨ds.length - (i + 1), by omega, rfl, hlt, G4, M4, z1, z2, z3, z4⟩, fun x H' y => ?_⟩
    obtain ⟨G4, d, rfl, s4, dj4, hd1, hd2⟩ := it.yld i G3 M3 x H' hlt s3 dj3 trivial y
    exact hs G2 s2 i d σ1 G4 M3 x hd1 (s3.trans s4) dj4 (hmono i σ1 G3 G4 M3 s4 pv) hd2
  · have e : i = ds.length := by omega
    subst e
    exact .inl ⟨it.stop G3 M3 s3 dj3 trivial, hd σ1 G3 M3 (s2.trans s3) dj3 pv⟩
/-- while: Pv by a number that falls -/
theorem ef_while {tc : TT} {tb : TS} {D : Ends} (Pv : Nat → L2.St → Hp → Mh → Prop) (dj : Dj G M) (m0 : Nat) (h0 : Pv m0 σ G M)
    (hs : ∀ m σ1 G3 M3, Same G G3 → Dj G3 M3 → Pv m σ1 G3 M3 → ∃ b, EvB M3 tc σ1 G3 b ∧
      (b = true → ∀ G4, Same G3 G4 → Dj G4 M3 → tb { D with nx := Nx G (fun σ' G' M' => ∃ m', m' < m ∧ Pv m' σ' G' M'), ct := Nx G (fun σ' G' M' => ∃ m', m' < m ∧ Pv m' σ' G' M'), bk := D.nx } σ1 (jn G4 M3)) ∧ (b = false → ∀ G4, Same G3 G4 → Dj G4 M3 → D.nx σ1 (jn G4 M3))) : tWhile tc tb D σ (jn G M) := by
  refine ⟨fun m σ H => Nx G (Pv m) σ H, ⟨m0, nx_of (Same.refl _) dj h0⟩, ?_⟩
  rintro m σ1 H ⟨G3, M3, rfl, s3, dj3, pv⟩
  obtain ⟨b, hb, h1, h2⟩ := hs m σ1 G3 M3 s3 dj3 pv
  refine hb G3 (Same.refl _) dj3 _ fun G4 s4 dj4 => ?_
  cases b with
  | true => exact iteT ⟨_, fun σ' H' z => by
      obtain ⟨G5, M5, e1, e2, e3, m', e4, e5⟩ := z
      exact ⟨m', e4, G5, M5, e1, e2, e3, e5⟩, h1 rfl G4 s4 dj4⟩
  | false => exact iteF (h2 rfl G4 s4 dj4)
theorem st_set {D : Ends} {k : Nat} (h : Ev K M te σ G d) (dj : Dj G M) (q : ∀ v G2, Same G G2 → Dj G2 M → Dp K G2 v d → D.nx (σ.set k (some v)) (jn G2 M)) : tAsg te (gName k) D σ (jn G M) := h G (Same.refl _) dj _ fun v G2 s dj2 hv => q v G2 s dj2 hv
theorem st_setM {D : Ends} {k : Nat} (h : EvM K M te σ G ds) (dj : Dj G M) (q : ∀ p xs G2, Same G G2 → M.lookup p = none → Dj G2 ((p, xs) :: M) → DpAll K G2 xs ds → D.nx (σ.set k (some (.ref p))) (jn G2 ((p, xs) :: M))) : tAsg te (gName k) D σ (jn G M) := h G (Same.refl _) dj _ fun p xs G2 s hm dj2 hd => q p xs G2 s hm dj2 hd
theorem st_ret {D : Ends} (h : Ev K M te σ G d) (dj : Dj G M) (q : ∀ v G2, Same G G2 → Dj G2 M → Dp K G2 v d → D.rt v (jn G2 M)) : tRet te D σ (jn G M) := h G (Same.refl _) dj _ fun v G2 s dj2 hv => q v G2 s dj2 hv
theorem st_if {D : Ends} {ts us : TS} (h : EvB M t σ G b) (dj : Dj G M) (h1 : b = true → ∀ G2, Same G G2 → Dj G2 M → ts D σ (jn G2 M)) (h2 : b = false → ∀ G2, Same G G2 → Dj G2 M → us D σ (jn G2 M)) : tIfS t ts us D σ (jn G M) := h G (Same.refl _) dj _ fun G2 s dj2 => by
  cases b with
  | true => exact iteT (h1 rfl G2 s dj2)
  | false => exact iteF (h2 rfl G2 s dj2)
theorem st_ifT {D : Ends} {ts us : TS} (h : EvB M t σ G true) (dj : Dj G M) (h1 : ∀ G2, Same G G2 → Dj G2 M → ts D σ (jn G2 M)) : tIfS t ts us D σ (jn G M) := st_if h dj (fun _ => h1) fun q => nomatch q
theorem st_ifF {D : Ends} {ts us : TS} (h : EvB M t σ G false) (dj : Dj G M) (h1 : ∀ G2, Same G G2 → Dj G2 M → us D σ (jn G2 M)) : tIfS t ts us D σ (jn G M) := st_if h dj (fun q => nomatch q) fun _ => h1
/-- xs.append(e) -/
theorem st_append {D : Ends} {k : Nat} {p : Addr} {xs : List V} (hp : σ[k]? = some (some (.ref p))) (h : Ev K ((p, xs) :: M) te σ G d) (hl : xs.length ≤ 100000) (dj : Dj G ((p, xs) :: M)) (q : ∀ v G2, Same G G2 → Dj G2 ((p, xs ++ [v]) :: M) → Dp K G2 v d → D.nx σ (jn G2 ((p, xs ++ [v]) :: M))) :
    tDrop (tBM K "list" rAppend (tVar k) (tCons te tNil)) D σ (jn G ((p, xs) :: M)) :=
  ⟨.ref p, hp, .inl ⟨rfl, _, .of jn_mine⟩, h G (Same.refl _) dj _ fun v G2 s dj2 hv => ⟨p, xs, v, rfl, rfl, jn_mine, Nat.lt_of_le_of_lt hl (by decide), by
    rw [jn_set]
    exact q v G2 s (dj_set dj2) hv⟩⟩
theorem sq {t1 u1 : TS} {D : Ends} {H : Hp} (h : t1 { D with nx := u1 D } σ H) : tSeq t1 u1 D σ H := h
section
variable {D : Ends} {us : TS} {k : Nat}
theorem s_set (h : Ev K M te σ G d) (dj : Dj G M) (q : ∀ v G2, Same G G2 → Dj G2 M → Dp K G2 v d → us D (σ.set k (some v)) (jn G2 M)) : tSeq (tAsg te (gName k)) us D σ (jn G M) := st_set h dj q
theorem s_setM (h : EvM K M te σ G ds) (dj : Dj G M) (q : ∀ p xs G2, Same G G2 → M.lookup p = none → Dj G2 ((p, xs) :: M) → DpAll K G2 xs ds → us D (σ.set k (some (.ref p))) (jn G2 ((p, xs) :: M))) : tSeq (tAsg te (gName k)) us D σ (jn G M) := st_setM h dj q
theorem s_if {ts ws : TS} (h : EvB M t σ G b) (dj : Dj G M) (h1 : b = true → ∀ G2, Same G G2 → Dj G2 M → ts { D with nx := us D } σ (jn G2 M)) (h2 : b = false → ∀ G2, Same G G2 → Dj G2 M → ws { D with nx := us D } σ (jn G2 M)) : tSeq (tIfS t ts ws) us D σ (jn G M) := st_if h dj h1 h2
theorem s_ifT {ts ws : TS} (h : EvB M t σ G b) (dj : Dj G M) (hb : b = true) (h1 : ∀ G2, Same G G2 → Dj G2 M → ts { D with nx := us D } σ (jn G2 M)) : tSeq (tIfS t ts ws) us D σ (jn G M) := by
  subst hb
  exact st_ifT h dj h1
theorem s_ifF {ts : TS} (h : EvB M t σ G b) (dj : Dj G M) (hb : b = false) (h1 : ∀ G2, Same G G2 → Dj G2 M → us D σ (jn G2 M)) : tSeq (tIfS t ts tNext) us D σ (jn G M) := by
  subst hb
  exact st_ifF h dj h1
theorem s_append {p : Addr} {xs : List V} (hp : σ[k]? = some (some (.ref p))) (h : Ev K ((p, xs) :: M) te σ G d) (hl : xs.length ≤ 100000) (dj : Dj G ((p, xs) :: M)) (q : ∀ v G2, Same G G2 → Dj G2 ((p, xs ++ [v]) :: M) → Dp K G2 v d → us D σ (jn G2 ((p, xs ++ [v]) :: M))) :
    tSeq (tDrop (tBM K "list" rAppend (tVar k) (tCons te tNil))) us D σ (jn G ((p, xs) :: M)) := st_append hp h hl dj q
end
/-- return e, the answer of the def -/
theorem fin {D : Ends} {H : Hp} {Q : VK} (q : ∀ v H', Same H H' → Dp K H' v d → Q v H') (s : Same H G) (h : Ev K [] te σ G e) (he : e = d := by rfl) (hD : D.rt = Q := by rfl) : tRet te D σ (jn G []) := by
  subst hD
  subst he
  exact h G (Same.refl _) (dj_nil _) _ fun v G2 s2 _ hv => q v G2 (s.trans s2) hv
def tNo : TE := fun _ _ _ => False
end
theorem pe_no {X : Cx} {e : Expr} : PE X e tNo := ⟨fun _ _ _ _ _ _ h => h.elim⟩
theorem pt_no {X : Cx} {e : Expr} : PT X e (fun _ _ _ => False) := ⟨fun _ _ _ _ _ _ h => h.elim⟩
end Lw
/-! text K4 -/
set_option Elab.async false
set_option linter.all false
set_option maxRecDepth 100000
set_option maxHeartbeats 2000000
namespace Lw
open PySem PySem.Spec PyProof.Rows L2
/-- names that are still the built-in ones -/
structure Tx (mg : Str → Option Value) : Prop where
  isinstance_ : mg "isinstance" = none
  tuple_ : mg "tuple" = none
  list_ : mg "list" = none
  bool_ : mg "bool" = none
  int_ : mg "int" = none
  str_ : mg "str" = none
  all_ : mg "all" = none
  any_ : mg "any" = none
  len_ : mg "len" = none
  set_ : mg "set" = none
  range_ : mg "range" = none
  zip_ : mg "zip" = none
  enumerate_ : mg "enumerate" = none
  sorted_ : mg "sorted" = none
  abs_ : mg "abs" = none
  min_ : mg "min" = none
  max_ : mg "max" = none
  vE : mg "ValueError" = none
section
variable {X : Cx} {a b : Expr} {ta tb : TE} {p p2 pos pos2 : Pos} {k : Nat}
theorem ty_int (T : Tx X.mg) (hg : Gl X "int" := by rfl) : PE X (.Name "int" p) (tC (.ty "int")) := pe_bltn hg T.int_ (by decide +kernel) rfl
theorem ty_bool (T : Tx X.mg) (hg : Gl X "bool" := by rfl) : PE X (.Name "bool" p) (tC (.ty "bool")) := pe_bltn hg T.bool_ (by decide +kernel) rfl
theorem ty_str (T : Tx X.mg) (hg : Gl X "str" := by rfl) : PE X (.Name "str" p) (tC (.ty "str")) := pe_bltn hg T.str_ (by decide +kernel) rfl
theorem ty_list (T : Tx X.mg) (hg : Gl X "list" := by rfl) : PE X (.Name "list" p) (tC (.ty "list")) := pe_bltn hg T.list_ (by decide +kernel) rfl
theorem ty_tuple (T : Tx X.mg) (hg : Gl X "tuple" := by rfl) : PE X (.Name "tuple" p) (tC (.ty "tuple")) := pe_bltn hg T.tuple_ (by decide +kernel) rfl
section
variable (K : PySem.W.Frag)
theorem pe_isi (T : Tx X.mg) (ha : PE X a ta) (hb : PE X b tb) (hK : X.K = K := by rfl) (hg : Gl X "isinstance" := by rfl) (he : starEach (a :: [b]) X.env = (false, eval a X.env) :: starEach [b] X.env := by rfl) (hpl : (backTo pos (starEach [b] X.env)).any (·.1) = false := by rfl)
    (he2 : starEach (b :: []) X.env = (false, eval b X.env) :: starEach [] X.env := by rfl) : PE X (.Call (.Name "isinstance" p) [a, b] [] pos) (tCB (rIsi K) (tCons ta (tCons tb tNil))) := by
  subst hK
  exact pe_callB call_isi hg T.isinstance_ (by decide +kernel) (pa_cons ha (pa_cons hb pa_nil he2) he) (by decide) (by decide) he hpl
theorem pe_isi2 (T : Tx X.mg) (ha : PE X a ta) (hb : PE X b tb) (hK : X.K = K := by rfl) (hg : Gl X "isinstance" := by rfl) (he : starEach (a :: [b]) X.env = (false, eval a X.env) :: starEach [b] X.env := by rfl) (hpl : (backTo pos (starEach [b] X.env)).any (·.1) = false := by rfl)
    (he2 : starEach (b :: []) X.env = (false, eval b X.env) :: starEach [] X.env := by rfl) : PE X (.Call (.Name "isinstance" p) [a, b] [] pos) (tCB (rIsiT K) (tCons ta (tCons tb tNil))) := by
  subst hK
  exact pe_callB call_isiT hg T.isinstance_ (by decide +kernel) (pa_cons ha (pa_cons hb pa_nil he2) he) (by decide) (by decide) he hpl
theorem pe_len (T : Tx X.mg) (ha : PE X a ta) (hK : X.K = K := by rfl) (hg : Gl X "len" := by rfl) (he : starEach (a :: []) X.env = (false, eval a X.env) :: starEach [] X.env := by rfl) : PE X (.Call (.Name "len" p) [a] [] pos) (tCB (rLenQ K) (tCons ta tNil)) := by
  subst hK
  exact pe_callB call_len_seq hg T.len_ PySem.boot_len (pa_cons ha pa_nil he) (by decide) (by decide) he rfl
theorem pe_all (T : Tx X.mg) (hc : X.calm = true) (ha : PE X a ta) (hK : X.K = K := by rfl) (hg : Gl X "all" := by rfl) (he : starEach (a :: []) X.env = (false, eval a X.env) :: starEach [] X.env := by rfl) : PE X (.Call (.Name "all" p) [a] [] pos) (tCB (rAll K) (tCons ta tNil)) := by
  subst hK
  exact pe_callB (cr_all hc) hg T.all_ (by decide +kernel) (pa_cons ha pa_nil he) (by decide) (by decide) he rfl
theorem pe_any (T : Tx X.mg) (hc : X.calm = true) (ha : PE X a ta) (hK : X.K = K := by rfl) (hg : Gl X "any" := by rfl) (he : starEach (a :: []) X.env = (false, eval a X.env) :: starEach [] X.env := by rfl) : PE X (.Call (.Name "any" p) [a] [] pos) (tCB (rAny K) (tCons ta tNil)) := by
  subst hK
  exact pe_callB (cr_any hc) hg T.any_ (by decide +kernel) (pa_cons ha pa_nil he) (by decide) (by decide) he rfl
theorem pe_tupOf (T : Tx X.mg) (ha : PE X a ta) (hK : X.K = K := by rfl) (hg : Gl X "tuple" := by rfl) (he : starEach (a :: []) X.env = (false, eval a X.env) :: starEach [] X.env := by rfl) : PE X (.Call (.Name "tuple" p) [a] [] pos) (tCB (rTupOf K) (tCons ta tNil)) := by
  subst hK
  exact pe_callTy call_tuple_of hg T.tuple_ (by decide +kernel) (pa_cons ha pa_nil he) (by decide) (by decide) he rfl
theorem pe_lstOf (T : Tx X.mg) (ha : PE X a ta) (hK : X.K = K := by rfl) (hg : Gl X "list" := by rfl) (he : starEach (a :: []) X.env = (false, eval a X.env) :: starEach [] X.env := by rfl) : PE X (.Call (.Name "list" p) [a] [] pos) (tCB (rLstOf K) (tCons ta tNil)) := by
  subst hK
  exact pe_callTy call_list_of hg T.list_ (by decide +kernel) (pa_cons ha pa_nil he) (by decide) (by decide) he rfl
/-- a[b], a a tuple; a list -/
theorem xT (ha : PE X a ta) (hb : PE X b tb) (hK : X.K = K := by rfl) (hs : PlainIx b := by exact fun _ _ => rfl) : PE X (.Subscript a b pos) (tOp (rIxT K) ta tb) := by
  subst hK
  exact pe_ix ix_tup ha hb hs
theorem xL (ha : PE X a ta) (hb : PE X b tb) (hK : X.K = K := by rfl) (hs : PlainIx b := by exact fun _ _ => rfl) : PE X (.Subscript a b pos) (tOp (rIxL K) ta tb) := by
  subst hK
  exact pe_ix ix_list ha hb hs
theorem pe_in (ha : PE X a ta) (hb : PE X b tb) (hK : X.K = K := by rfl) (hm : behindInMarks .In b = false := by rfl) : PE X (.Compare a [.In] [b] pos) (tOp (rIn K false) ta tb) := by
  subst hK
  exact pe_cmpR op_in_seq ha hb hm
theorem pe_ni (ha : PE X a ta) (hb : PE X b tb) (hK : X.K = K := by rfl) (hm : behindInMarks .NotIn b = false := by rfl) : PE X (.Compare a [.NotIn] [b] pos) (tOp (rIn K true) ta tb) := by
  subst hK
  exact pe_cmpR op_notIn_seq ha hb hm
theorem pe_eqD (hu : X.A.units + 64 < cLine) (ha : PE X a ta) (hb : PE X b tb) (hK : X.K = K := by rfl) : PE X (.Compare a [.Eq] [b] pos) (tOp (rEqD K) ta tb) := by
  subst hK
  exact pe_cmpR (op_eqD hu) ha hb (nomark _)
theorem pe_neD (hu : X.A.units + 64 < cLine) (ha : PE X a ta) (hb : PE X b tb) (hK : X.K = K := by rfl) : PE X (.Compare a [.NotEq] [b] pos) (tOp (rNeD K) ta tb) := by
  subst hK
  exact pe_cmpR (op_neD hu) ha hb (nomark _)
theorem pt_in (ha : PE X a ta) (hb : PE X b tb) (hK : X.K = K := by rfl) (hm : behindInMarks .In b = false := by rfl) : PT X (.Compare a [.In] [b] pos) (tTest (tOp (rIn K false) ta tb)) := by
  subst hK
  exact pt_cmpR op_in_seq ha hb hm
theorem pt_ni (ha : PE X a ta) (hb : PE X b tb) (hK : X.K = K := by rfl) (hm : behindInMarks .NotIn b = false := by rfl) : PT X (.Compare a [.NotIn] [b] pos) (tTest (tOp (rIn K true) ta tb)) := by
  subst hK
  exact pt_cmpR op_notIn_seq ha hb hm
theorem pt_eqD (hu : X.A.units + 64 < cLine) (ha : PE X a ta) (hb : PE X b tb) (hK : X.K = K := by rfl) : PT X (.Compare a [.Eq] [b] pos) (tTest (tOp (rEqD K) ta tb)) := by
  subst hK
  exact pt_cmpR (op_eqD hu) ha hb (nomark _)
theorem pt_neD (hu : X.A.units + 64 < cLine) (ha : PE X a ta) (hb : PE X b tb) (hK : X.K = K := by rfl) : PT X (.Compare a [.NotEq] [b] pos) (tTest (tOp (rNeD K) ta tb)) := by
  subst hK
  exact pt_cmpR (op_neD hu) ha hb (nomark _)
theorem pt_niD (hu : X.A.units + 65 < cLine) (ha : PE X a ta) (hb : PE X b tb) (hK : X.K = K := by rfl) (hm : behindInMarks .NotIn b = false := by rfl) : PT X (.Compare a [.NotIn] [b] pos) (tTest (tOp (rNotInD K) ta tb)) := by
  subst hK
  exact pt_cmpR (op_notInD hu) ha hb hm
theorem pe_slT {lo hi : Option Expr} {tl th : TO} {px : Pos} (ha : PE X a ta) (hl : PO X lo tl) (hh : PO X hi th) (hK : X.K = K := by rfl) : PE X (.Subscript a (.Slice lo hi none px) pos) (tSl (rSlA K) ta tl th) := by
  subst hK
  exact pe_slice sl_tupA ha hl hh
theorem pe_slL {lo hi : Option Expr} {tl th : TO} {px : Pos} (ha : PE X a ta) (hl : PO X lo tl) (hh : PO X hi th) (hK : X.K = K := by rfl) : PE X (.Subscript a (.Slice lo hi none px) pos) (tSl (rSlL K) ta tl th) := by
  subst hK
  exact pe_slice sl_list ha hl hh
theorem pe_catT (ha : PE X a ta) (hb : PE X b tb) (hK : X.K = K := by rfl) : PE X (.BinOp a .Add b pos) (tOp (rCatA K) ta tb) := by
  subst hK
  exact pe_op op_catA ha hb
theorem wi_list {tg : Expr} (ha : PE X a ta) (hK : X.K = K := by rfl) : PI X tg a (iList K ta) := by
  subst hK
  exact pi_list ha
theorem wi_tup {tg : Expr} (ha : PE X a ta) (hK : X.K = K := by rfl) : PI X tg a (iTup K ta) := by
  subst hK
  exact pi_tup ha
theorem pg2 {x y : Expr} {t : TGs} {x1 : Nat} (hc : X.calm = true) (h : PGs X [x, y] t) (hK : X.K = K := by rfl) (hn : (assignEach [x, y] X.env).length = [x, y].length := by rfl) (hst : (assignEach [x, y] X.env).findIdx? (·.1) = none := by rfl) : PG X (.Tuple [x, y] x1 pos) (gTup K 2 t) := by
  subst hK
  exact pg_tup hc h hn hst
end
theorem pe_int1 (T : Tx X.mg) (ha : PE X a ta) (hg : Gl X "int" := by rfl) (he : starEach (a :: []) X.env = (false, eval a X.env) :: starEach [] X.env := by rfl) : PE X (.Call (.Name "int" p) [a] [] pos) (tCB rInt1 (tCons ta tNil)) :=
  pe_callTy call_int1 hg T.int_ (by decide +kernel) (pa_cons ha pa_nil he) (by decide) (by decide) he rfl
theorem pe_abs (T : Tx X.mg) (ha : PE X a ta) (hg : Gl X "abs" := by rfl) (he : starEach (a :: []) X.env = (false, eval a X.env) :: starEach [] X.env := by rfl) : PE X (.Call (.Name "abs" p) [a] [] pos) (tCB rAbs (tCons ta tNil)) :=
  pe_callB call_abs hg T.abs_ (by decide +kernel) (pa_cons ha pa_nil he) (by decide) (by decide) he rfl
theorem pe_max2 (T : Tx X.mg) (hc : X.calm = true) (ha : PE X a ta) (hb : PE X b tb) (hg : Gl X "max" := by rfl) (he : starEach (a :: [b]) X.env = (false, eval a X.env) :: starEach [b] X.env := by rfl) (hpl : (backTo pos (starEach [b] X.env)).any (·.1) = false := by rfl)
    (he2 : starEach (b :: []) X.env = (false, eval b X.env) :: starEach [] X.env := by rfl) : PE X (.Call (.Name "max" p) [a, b] [] pos) (tCB rMax2 (tCons ta (tCons tb tNil))) :=
  pe_callB (call_max2 hc) hg T.max_ (by decide +kernel) (pa_cons ha (pa_cons hb pa_nil he2) he) (by decide) (by decide) he hpl
theorem pe_min2 (T : Tx X.mg) (hc : X.calm = true) (ha : PE X a ta) (hb : PE X b tb) (hg : Gl X "min" := by rfl) (he : starEach (a :: [b]) X.env = (false, eval a X.env) :: starEach [b] X.env := by rfl) (hpl : (backTo pos (starEach [b] X.env)).any (·.1) = false := by rfl)
    (he2 : starEach (b :: []) X.env = (false, eval b X.env) :: starEach [] X.env := by rfl) : PE X (.Call (.Name "min" p) [a, b] [] pos) (tCB rMin2 (tCons ta (tCons tb tNil))) :=
  pe_callB (call_min2 hc) hg T.min_ (by decide +kernel) (pa_cons ha (pa_cons hb pa_nil he2) he) (by decide) (by decide) he hpl
/-- [elt for x in iter], [.. if c], x in slot i -/
theorem lcA {elt iter : Expr} {px : Pos} {x : Str} {scope : Scope} {wi : TI} {te : TE} (i : Nat) (hN : X.N.Nodup) (hi : PI X (.Name x px) iter wi) (he : ∀ (s : Shared) (H : Hp) (C : Addr) (cl : List (Str × Addr)) (fp : List Addr), PE (X.blk s H scope (compEnvC scope cl C X.env) fp) elt te)
    (hc : X.calm = true := by rfl) (ok : BlkOk X.N X.env.scope scope [(x, i)] := by exact blkOk_by (by rfl)) (hx : X.N[i]? = some x := by rfl) (hl : ∀ (C : Addr) (cl : List (Str × Addr)), Loc (compEnvC scope cl C X.env).scope x := by intro _ _; first | exact Or.inl rfl | exact Or.inr rfl)
    (hf : ∀ (C : Addr) (cl : List (Str × Addr)), (scope.names.lookup x == some .cell) = true ∨ (compEnvC scope cl C X.env).scope.names.lookup x = some .local := by intro _ _; first | exact .inl rfl | exact .inr rfl)
    (hs : ∀ z, foldedSetIterable iter X.env z = pure z := by intro _; rfl) : PE X (.ListComp elt [⟨.Name x px, iter, [], 0⟩] scope pos) (tLc wi (gName i) tYes te [i]) :=
  pe_lc (own := [(x, i)]) hc hN hi ok (fun _ _ C cl _ => pg_name hN hx (hl C cl) (hf C cl)) (fun _ _ _ _ _ => pts_nil) he hs
theorem lcF {elt iter c : Expr} {px : Pos} {x : Str} {scope : Scope} {wi : TI} {te : TE} {tt : TT} (i : Nat) (hN : X.N.Nodup) (hi : PI X (.Name x px) iter wi) (ht : ∀ (s : Shared) (H : Hp) (C : Addr) (cl : List (Str × Addr)) (fp : List Addr), PT (X.blk s H scope (compEnvC scope cl C X.env) fp) c tt)
    (he : ∀ (s : Shared) (H : Hp) (C : Addr) (cl : List (Str × Addr)) (fp : List Addr), PE (X.blk s H scope (compEnvC scope cl C X.env) fp) elt te)
    (hc : X.calm = true := by rfl) (ok : BlkOk X.N X.env.scope scope [(x, i)] := by exact blkOk_by (by rfl)) (hx : X.N[i]? = some x := by rfl) (hl : ∀ (C : Addr) (cl : List (Str × Addr)), Loc (compEnvC scope cl C X.env).scope x := by intro _ _; first | exact Or.inl rfl | exact Or.inr rfl)
    (hf : ∀ (C : Addr) (cl : List (Str × Addr)), (scope.names.lookup x == some .cell) = true ∨ (compEnvC scope cl C X.env).scope.names.lookup x = some .local := by intro _ _; first | exact .inl rfl | exact .inr rfl)
    (hs : ∀ z, foldedSetIterable iter X.env z = pure z := by intro _; rfl) : PE X (.ListComp elt [⟨.Name x px, iter, [c], 0⟩] scope pos) (tLc wi (gName i) tt te [i]) :=
  pe_lc (own := [(x, i)]) hc hN hi ok (fun _ _ C cl _ => pg_name hN hx (hl C cl) (hf C cl)) (fun s H C cl fp => pts_one (ht s H C cl fp)) he hs
/-- y = [..], y a local, in slot j -/
theorem slcA {elt iter : Expr} {px py spos : Pos} {x y : Str} {scope : Scope} {wi : TI} {te : TE} (i j : Nat) (hN : X.N.Nodup) (hi : PI X (.Name x px) iter wi) (he : ∀ (s : Shared) (H : Hp) (C : Addr) (cl : List (Str × Addr)) (fp : List Addr), PE (X.blk s H scope (compEnvC scope cl C X.env) fp) elt te)
    (hc : X.calm = true := by rfl) (hy : X.N[j]? = some y := by rfl) (hyl : X.env.scope.names.lookup y = some .local := by rfl)
    (hsw : swapsWith (.ListComp elt [⟨.Name x px, iter, [], 0⟩] scope pos) (some (.Name y py)) spos.line X.env = pure true := by exact sw_true rfl rfl rfl (by decide +kernel))
    (ok : BlkOk X.N X.env.scope scope [(x, i)] := by exact blkOk_by (by rfl)) (hx : X.N[i]? = some x := by rfl) (hl : ∀ (C : Addr) (cl : List (Str × Addr)), Loc (compEnvC scope cl C X.env).scope x := by intro _ _; first | exact Or.inl rfl | exact Or.inr rfl)
    (hf : ∀ (C : Addr) (cl : List (Str × Addr)), (scope.names.lookup x == some .cell) = true ∨ (compEnvC scope cl C X.env).scope.names.lookup x = some .local := by intro _ _; first | exact .inl rfl | exact .inr rfl)
    (hs : ∀ z, foldedSetIterable iter X.env z = pure z := by intro _; rfl) : PS X (.Assign [.Name y py] (.ListComp elt [⟨.Name x px, iter, [], 0⟩] scope pos) spos) (tAsg (tLc wi (gName i) tYes te [i]) (gName j)) :=
  ps_setLc (own := [(x, i)]) hc hN hy hyl hsw hi ok (fun _ _ C cl _ => pg_name hN hx (hl C cl) (hf C cl)) (fun _ _ _ _ _ => pts_nil) he hs
theorem slcF {elt iter c : Expr} {px py spos : Pos} {x y : Str} {scope : Scope} {wi : TI} {te : TE} {tt : TT} (i j : Nat) (hN : X.N.Nodup) (hi : PI X (.Name x px) iter wi) (ht : ∀ (s : Shared) (H : Hp) (C : Addr) (cl : List (Str × Addr)) (fp : List Addr), PT (X.blk s H scope (compEnvC scope cl C X.env) fp) c tt)
    (he : ∀ (s : Shared) (H : Hp) (C : Addr) (cl : List (Str × Addr)) (fp : List Addr), PE (X.blk s H scope (compEnvC scope cl C X.env) fp) elt te)
    (hc : X.calm = true := by rfl) (hy : X.N[j]? = some y := by rfl) (hyl : X.env.scope.names.lookup y = some .local := by rfl)
    (hsw : swapsWith (.ListComp elt [⟨.Name x px, iter, [c], 0⟩] scope pos) (some (.Name y py)) spos.line X.env = pure true := by exact sw_true rfl rfl rfl (by decide +kernel))
    (ok : BlkOk X.N X.env.scope scope [(x, i)] := by exact blkOk_by (by rfl)) (hx : X.N[i]? = some x := by rfl) (hl : ∀ (C : Addr) (cl : List (Str × Addr)), Loc (compEnvC scope cl C X.env).scope x := by intro _ _; first | exact Or.inl rfl | exact Or.inr rfl)
    (hf : ∀ (C : Addr) (cl : List (Str × Addr)), (scope.names.lookup x == some .cell) = true ∨ (compEnvC scope cl C X.env).scope.names.lookup x = some .local := by intro _ _; first | exact .inl rfl | exact .inr rfl)
    (hs : ∀ z, foldedSetIterable iter X.env z = pure z := by intro _; rfl) : PS X (.Assign [.Name y py] (.ListComp elt [⟨.Name x px, iter, [c], 0⟩] scope pos) spos) (tAsg (tLc wi (gName i) tt te [i]) (gName j)) :=
  ps_setLc (own := [(x, i)]) hc hN hy hyl hsw hi ok (fun _ _ C cl _ => pg_name hN hx (hl C cl) (hf C cl)) (fun s H C cl fp => pts_one (ht s H C cl fp)) he hs
/-- [elt for x, y in iter], [.. if c], x in slot i, y in slot k -/
theorem lcA2 (K : PySem.W.Frag) {elt iter : Expr} {px py pt : Pos} {x1 : Nat} {x y : Str} {scope : Scope} {wi : TI} {te : TE} (i k : Nat) (hN : X.N.Nodup) (hi : PI X (.Tuple [.Name x px, .Name y py] x1 pt) iter wi)
    (he : ∀ (s : Shared) (H : Hp) (C : Addr) (cl : List (Str × Addr)) (fp : List Addr), PE (X.blk s H scope (compEnvC scope cl C X.env) fp) elt te) (hK : X.K = K := by rfl)
    (hc : X.calm = true := by rfl) (ok : BlkOk X.N X.env.scope scope [(x, i), (y, k)] := by exact blkOk_by (by rfl)) (hx : X.N[i]? = some x := by rfl) (hy : X.N[k]? = some y := by rfl)
    (hg : ∀ (s : Shared) (H : Hp) (C : Addr) (cl : List (Str × Addr)) (fp : List Addr), PGs (X.blk s H scope (compEnvC scope cl C X.env) fp) [.Name x px, .Name y py] (gCons (gName i) (gCons (gName k) gNil)) := by
      intro _ _ _ _ _; exact pgs_cons (pg_name (by assumption) rfl (by first | exact Or.inl rfl | exact Or.inr rfl)) (pgs_cons (pg_name (by assumption) rfl (by first | exact Or.inl rfl | exact Or.inr rfl)) pgs_nil))
    (hs : ∀ z, foldedSetIterable iter X.env z = pure z := by intro _; rfl)
    (hn : ∀ (C : Addr) (cl : List (Str × Addr)), (assignEach [.Name x px, .Name y py] (compEnvC scope cl C X.env)).length = 2 := by intro _ _; rfl) (hst : ∀ (C : Addr) (cl : List (Str × Addr)), (assignEach [.Name x px, .Name y py] (compEnvC scope cl C X.env)).findIdx? (·.1) = none := by intro _ _; rfl) :
    PE X (.ListComp elt [⟨.Tuple [.Name x px, .Name y py] x1 pt, iter, [], 0⟩] scope pos) (tLc wi (gTup K 2 (gCons (gName i) (gCons (gName k) gNil))) tYes te [i, k]) := by
  subst hK
  exact pe_lc (own := [(x, i), (y, k)]) hc hN hi ok (fun s H C cl fp => pg_tup hc (hg s H C cl fp) (hn C cl) (hst C cl)) (fun _ _ _ _ _ => pts_nil) he hs
theorem lcF2 (K : PySem.W.Frag) {elt iter c : Expr} {px py pt : Pos} {x1 : Nat} {x y : Str} {scope : Scope} {wi : TI} {te : TE} {tt : TT} (i k : Nat) (hN : X.N.Nodup) (hi : PI X (.Tuple [.Name x px, .Name y py] x1 pt) iter wi)
    (ht : ∀ (s : Shared) (H : Hp) (C : Addr) (cl : List (Str × Addr)) (fp : List Addr), PT (X.blk s H scope (compEnvC scope cl C X.env) fp) c tt)
    (he : ∀ (s : Shared) (H : Hp) (C : Addr) (cl : List (Str × Addr)) (fp : List Addr), PE (X.blk s H scope (compEnvC scope cl C X.env) fp) elt te) (hK : X.K = K := by rfl)
    (hc : X.calm = true := by rfl) (ok : BlkOk X.N X.env.scope scope [(x, i), (y, k)] := by exact blkOk_by (by rfl)) (hx : X.N[i]? = some x := by rfl) (hy : X.N[k]? = some y := by rfl)
    (hg : ∀ (s : Shared) (H : Hp) (C : Addr) (cl : List (Str × Addr)) (fp : List Addr), PGs (X.blk s H scope (compEnvC scope cl C X.env) fp) [.Name x px, .Name y py] (gCons (gName i) (gCons (gName k) gNil)) := by
      intro _ _ _ _ _; exact pgs_cons (pg_name (by assumption) rfl (by first | exact Or.inl rfl | exact Or.inr rfl)) (pgs_cons (pg_name (by assumption) rfl (by first | exact Or.inl rfl | exact Or.inr rfl)) pgs_nil))
    (hs : ∀ z, foldedSetIterable iter X.env z = pure z := by intro _; rfl)
    (hn : ∀ (C : Addr) (cl : List (Str × Addr)), (assignEach [.Name x px, .Name y py] (compEnvC scope cl C X.env)).length = 2 := by intro _ _; rfl) (hst : ∀ (C : Addr) (cl : List (Str × Addr)), (assignEach [.Name x px, .Name y py] (compEnvC scope cl C X.env)).findIdx? (·.1) = none := by intro _ _; rfl) :
    PE X (.ListComp elt [⟨.Tuple [.Name x px, .Name y py] x1 pt, iter, [c], 0⟩] scope pos) (tLc wi (gTup K 2 (gCons (gName i) (gCons (gName k) gNil))) tt te [i, k]) := by
  subst hK
  exact pe_lc (own := [(x, i), (y, k)]) hc hN hi ok (fun s H C cl fp => pg_tup hc (hg s H C cl fp) (hn C cl) (hst C cl)) (fun s H C cl fp => pts_one (ht s H C cl fp)) he hs
theorem hu64 (hr : Room k X.A) : X.A.units + 64 < cLine := by have := hr.un; omega
theorem hu65 (hr : Room k X.A) : X.A.units + 65 < cLine := by have := hr.un; omega
end
theorem kit_NoneType_bool : kitB "NoneType" "bool" = some false := by decide +kernel
theorem kit_NoneType_int : kitB "NoneType" "int" = some false := by decide +kernel
theorem kit_NoneType_str : kitB "NoneType" "str" = some false := by decide +kernel
theorem kit_NoneType_list : kitB "NoneType" "list" = some false := by decide +kernel
theorem kit_NoneType_tuple : kitB "NoneType" "tuple" = some false := by decide +kernel
theorem kit_bool_bool : kitB "bool" "bool" = some true := by decide +kernel
theorem kit_bool_int : kitB "bool" "int" = some true := by decide +kernel
theorem kit_bool_str : kitB "bool" "str" = some false := by decide +kernel
theorem kit_bool_list : kitB "bool" "list" = some false := by decide +kernel
theorem kit_bool_tuple : kitB "bool" "tuple" = some false := by decide +kernel
theorem kit_int_bool : kitB "int" "bool" = some false := by decide +kernel
theorem kit_int_int : kitB "int" "int" = some true := by decide +kernel
theorem kit_int_str : kitB "int" "str" = some false := by decide +kernel
theorem kit_int_list : kitB "int" "list" = some false := by decide +kernel
theorem kit_int_tuple : kitB "int" "tuple" = some false := by decide +kernel
theorem kit_str_bool : kitB "str" "bool" = some false := by decide +kernel
theorem kit_str_int : kitB "str" "int" = some false := by decide +kernel
theorem kit_str_str : kitB "str" "str" = some true := by decide +kernel
theorem kit_str_list : kitB "str" "list" = some false := by decide +kernel
theorem kit_str_tuple : kitB "str" "tuple" = some false := by decide +kernel
theorem kit_list_bool : kitB "list" "bool" = some false := by decide +kernel
theorem kit_list_int : kitB "list" "int" = some false := by decide +kernel
theorem kit_list_str : kitB "list" "str" = some false := by decide +kernel
theorem kit_list_list : kitB "list" "list" = some true := by decide +kernel
theorem kit_list_tuple : kitB "list" "tuple" = some false := by decide +kernel
theorem kit_tuple_bool : kitB "tuple" "bool" = some false := by decide +kernel
theorem kit_tuple_int : kitB "tuple" "int" = some false := by decide +kernel
theorem kit_tuple_str : kitB "tuple" "str" = some false := by decide +kernel
theorem kit_tuple_list : kitB "tuple" "list" = some false := by decide +kernel
theorem kit_tuple_tuple : kitB "tuple" "tuple" = some true := by decide +kernel
section
variable {K : PySem.W.Frag} {H : Hp} {vs : List V} {d1 d2 d3 d4 d5 : PyData}
theorem dp0 (h : DpAll K H vs []) : vs = [] := by cases h; rfl
theorem dp1 (h : DpAll K H vs [d1]) : ∃ v1, vs = [v1] ∧ Dp K H v1 d1 := by
  cases h with
  | cons a h => rw [dp0 h]; exact ⟨_, rfl, a⟩
theorem dp2 (h : DpAll K H vs [d1, d2]) : ∃ v1 v2, vs = [v1, v2] ∧ Dp K H v1 d1 ∧ Dp K H v2 d2 := by
  cases h with
  | cons a h =>
    obtain ⟨v, rfl, b⟩ := dp1 h
    exact ⟨_, _, rfl, a, b⟩
theorem dp3 (h : DpAll K H vs [d1, d2, d3]) : ∃ v1 v2 v3, vs = [v1, v2, v3] ∧ Dp K H v1 d1 ∧ Dp K H v2 d2 ∧ Dp K H v3 d3 := by
  cases h with
  | cons a h =>
    obtain ⟨v, w, rfl, b, c⟩ := dp2 h
    exact ⟨_, _, _, rfl, a, b, c⟩
theorem dp4 (h : DpAll K H vs [d1, d2, d3, d4]) : ∃ v1 v2 v3 v4, vs = [v1, v2, v3, v4] ∧ Dp K H v1 d1 ∧ Dp K H v2 d2 ∧ Dp K H v3 d3 ∧ Dp K H v4 d4 := by
  cases h with
  | cons a h =>
    obtain ⟨v, w, x, rfl, b, c, e⟩ := dp3 h
    exact ⟨_, _, _, _, rfl, a, b, c, e⟩
theorem dp5 (h : DpAll K H vs [d1, d2, d3, d4, d5]) : ∃ v1 v2 v3 v4 v5, vs = [v1, v2, v3, v4, v5] ∧ Dp K H v1 d1 ∧ Dp K H v2 d2 ∧ Dp K H v3 d3 ∧ Dp K H v4 d4 ∧ Dp K H v5 d5 := by
  cases h with
  | cons a h =>
    obtain ⟨v, w, x, y, rfl, b, c, e, f⟩ := dp4 h
    exact ⟨_, _, _, _, _, rfl, a, b, c, e, f⟩
end
end Lw
/-! text E1 -/
set_option Elab.async false
set_option linter.all false
set_option maxRecDepth 100000
set_option maxHeartbeats 2000000
namespace Lw
open PySem PySem.Spec PyProof.Rows L2
/-! ### the data of webs, takings, orders -/
def gD (g : Nat × Nat) : PyData := .tuple [nD g.1, nD g.2]
def webD (n : Nat) (gs : Gs) : PyData := .tuple [nD n, .tuple (gs.map gD)]
def tD (T : List (Option Nat)) : PyData := .tuple (T.map oD)
def rD (p : List Nat) : PyData := .tuple (p.map nD)
def lD (p : List Nat) : PyData := .list (p.map nD)
def llD (Fs : List (List Nat)) : PyData := .list (Fs.map lD)
/-! depth -/
def leafB : PyData → Bool
  | .none => true
  | .bool _ => true
  | .int _ => true
  | .str x => PySem.PyData.canLay0 (.str x)
  | _ => false
/-- at most n deep, no list longer than 1000 -/
def Lv : Nat → PyData → Prop
  | 0, d => leafB d = true
  | n + 1, d => leafB d = true ∨ ∃ xs, (d = .list xs ∨ d = .tuple xs) ∧ xs.length ≤ 1000 ∧ ∀ x ∈ xs, Lv n x
theorem Lv.up : ∀ {n : Nat} {d : PyData}, Lv n d → Lv (n + 1) d
  | 0, d, h => .inl h
  | n + 1, d, h => by
    rcases h with h | ⟨xs, h1, h2, h3⟩
    · exact .inl h
    · exact .inr ⟨xs, h1, h2, fun x hx => Lv.up (h3 x hx)⟩
theorem canAll : ∀ {xs : List PyData}, (∀ x ∈ xs, x.canLay0 = true) → PyData.canLayAll0 xs = true
  | [], _ => rfl
  | x :: xs, h => by
    rw [PyData.canLayAll0, h x List.mem_cons_self, canAll fun y hy => h y (List.mem_cons_of_mem _ hy)]
    rfl
theorem depAll {n : Nat} : ∀ {xs : List PyData}, (∀ x ∈ xs, x.depth ≤ n) → PyData.depthAll xs ≤ n
  | [], _ => Nat.zero_le _
  | x :: xs, h => by
    rw [PyData.depthAll]
    exact Nat.max_le.mpr ⟨h x List.mem_cons_self, depAll fun y hy => h y (List.mem_cons_of_mem _ hy)⟩
theorem Lv.ok : ∀ {n : Nat} {d : PyData}, Lv n d → d.canLay0 = true ∧ d.depth ≤ n
  | 0, d, h => by
    cases d <;> first | exact ⟨h, by rw [PyData.depth]; exact Nat.zero_le _⟩ | exact ⟨rfl, by rw [PyData.depth]; exact Nat.zero_le _⟩ | cases h
  | n + 1, d, h => by
    rcases h with h | ⟨xs, h1, h2, h3⟩
    · have := Lv.ok (n := 0) (d := d) h
      exact ⟨this.1, Nat.le_trans this.2 (Nat.zero_le _)⟩
    · have c := canAll fun x hx => (Lv.ok (h3 x hx)).1
      have e := depAll fun x hx => (Lv.ok (h3 x hx)).2
      rcases h1 with rfl | rfl
      · exact ⟨c, by rw [PyData.depth]; exact Nat.succ_le_succ e⟩
      · exact ⟨c, by rw [PyData.depth]; exact Nat.succ_le_succ e⟩
theorem Lv.shaped {n : Nat} {d : PyData} (h : Lv n d) (hn : n ≤ 60 := by decide) : SeqAt.shaped d = true := by
  obtain ⟨h1, h2⟩ := h.ok
  unfold SeqAt.shaped
  rw [h1, Bool.true_and]
  exact decide_eq_true (by omega)
theorem lv_tup {n : Nat} {xs : List PyData} (hl : xs.length ≤ 1000) (h : ∀ x ∈ xs, Lv n x) : Lv (n + 1) (.tuple xs) := .inr ⟨xs, .inr rfl, hl, h⟩
theorem lv_lst {n : Nat} {xs : List PyData} (hl : xs.length ≤ 1000) (h : ∀ x ∈ xs, Lv n x) : Lv (n + 1) (.list xs) := .inr ⟨xs, .inl rfl, hl, h⟩
theorem lv_n (k n : Nat) : Lv k (nD n) := by cases k with
  | zero => rfl
  | succ k => exact .inl rfl
theorem lv_o (k : Nat) (o : Option Nat) : Lv k (oD o) := by
  cases o <;> cases k <;> first | rfl | exact .inl rfl
theorem lv_r {p : List Nat} (h : p.length ≤ 1000) : Lv 1 (rD p) := lv_tup (by rw [List.length_map]; exact h) fun x hx => by
  obtain ⟨n, _, rfl⟩ := List.mem_map.mp hx
  exact lv_n 0 n
theorem lv_t {T : List (Option Nat)} (h : T.length ≤ 1000) : Lv 1 (tD T) := lv_tup (by rw [List.length_map]; exact h) fun x hx => by
  obtain ⟨n, _, rfl⟩ := List.mem_map.mp hx
  exact lv_o 0 n
theorem lv_web {n : Nat} {gs : Gs} (h : gs.length ≤ 1000) : Lv 3 (webD n gs) := lv_tup (by show 2 ≤ 1000; decide) fun x hx => by
  rcases List.mem_cons.mp hx with rfl | hx
  · exact lv_n 2 n
  · rw [List.mem_singleton] at hx
    subst hx
    refine lv_tup (by rw [List.length_map]; exact h) fun x hx => ?_
    obtain ⟨g, _, rfl⟩ := List.mem_map.mp hx
    refine lv_tup (by show 2 ≤ 1000; decide) fun x hx => ?_
    rcases List.mem_cons.mp hx with rfl | hx
    · exact lv_n 0 _
    · rw [List.mem_singleton] at hx
      subst hx
      exact lv_n 0 _
/-! tuples in the place of lists; lists in the place of tuples -/
def tupN : Nat → PyData → PyData
  | 0, d => d
  | n + 1, d => match d with
    | .list xs => .tuple (xs.map (tupN n))
    | .tuple xs => .tuple (xs.map (tupN n))
    | d => d
def lstN : Nat → PyData → PyData
  | 0, d => d
  | n + 1, d => match d with
    | .list xs => .list (xs.map (lstN n))
    | .tuple xs => .list (xs.map (lstN n))
    | d => d
/-- read as tuples x is d -/
def As (n : Nat) (x d : PyData) : Prop := Lv n x ∧ tupN n x = d
theorem tupN_nD (k n : Nat) : tupN k (nD n) = nD n := by cases k <;> rfl
theorem tupN_oD (k : Nat) (o : Option Nat) : tupN k (oD o) = oD o := by cases o <;> cases k <;> rfl
theorem lstN_nD (k n : Nat) : lstN k (nD n) = nD n := by cases k <;> rfl
theorem lstN_oD (k : Nat) (o : Option Nat) : lstN k (oD o) = oD o := by cases o <;> cases k <;> rfl
theorem map_same {α β : Type} {f g : α → β} {l : List α} (h : ∀ x, f x = g x) : l.map f = l.map g := by rw [funext h]
theorem tupN_gD (g : Nat × Nat) : tupN 1 (gD g) = gD g := by
  show PyData.tuple [tupN 0 (nD g.1), tupN 0 (nD g.2)] = _
  rfl
theorem as_r {p : List Nat} (h : p.length ≤ 1000) : As 1 (rD p) (rD p) := ⟨lv_r h, by
  show PyData.tuple ((p.map nD).map (tupN 0)) = _
  rw [List.map_map]
  rfl⟩
theorem as_lr {p : List Nat} (h : p.length ≤ 1000) : As 1 (lD p) (rD p) := ⟨lv_lst (by rw [List.length_map]; exact h) fun x hx => by
  obtain ⟨n, _, rfl⟩ := List.mem_map.mp hx
  exact lv_n 0 n, by
  show PyData.tuple ((p.map nD).map (tupN 0)) = _
  rw [List.map_map]
  rfl⟩
theorem as_t {T : List (Option Nat)} (h : T.length ≤ 1000) : As 1 (tD T) (tD T) := ⟨lv_t h, by
  show PyData.tuple ((T.map oD).map (tupN 0)) = _
  rw [List.map_map]
  rfl⟩
theorem as_lt {T : List (Option Nat)} (h : T.length ≤ 1000) : As 1 (.list (T.map oD)) (tD T) := ⟨lv_lst (by rw [List.length_map]; exact h) fun x hx => by
  obtain ⟨n, _, rfl⟩ := List.mem_map.mp hx
  exact lv_o 0 n, by
  show PyData.tuple ((T.map oD).map (tupN 0)) = _
  rw [List.map_map]
  rfl⟩
theorem as_web {n : Nat} {gs : Gs} (h : gs.length ≤ 1000) : As 3 (webD n gs) (webD n gs) := ⟨lv_web h, by
  show PyData.tuple [tupN 2 (nD n), .tuple ((gs.map gD).map (tupN 1))] = _
  rw [tupN_nD, List.map_map, show tupN 1 ∘ gD = gD from funext fun g => tupN_gD g]
  rfl⟩
/-- a web all of lists -/
theorem as_lweb {n : Nat} {gs : Gs} (h : gs.length ≤ 1000) : As 3 (lstN 3 (webD n gs)) (webD n gs) := by
  have e : lstN 3 (webD n gs) = .list [nD n, .list (gs.map fun g => .list [nD g.1, nD g.2])] := by
    show PyData.list [lstN 2 (nD n), .list ((gs.map gD).map (lstN 1))] = _
    rw [lstN_nD, List.map_map]
    rfl
  rw [e]
  refine ⟨lv_lst (by show 2 ≤ 1000; decide) fun x hx => ?_, ?_⟩
  · rcases List.mem_cons.mp hx with rfl | hx
    · exact lv_n 2 n
    · rw [List.mem_singleton] at hx
      subst hx
      refine lv_lst (by rw [List.length_map]; exact h) fun x hx => ?_
      obtain ⟨g, _, rfl⟩ := List.mem_map.mp hx
      refine lv_lst (by show 2 ≤ 1000; decide) fun x hx => ?_
      rcases List.mem_cons.mp hx with rfl | hx
      · exact lv_n 0 _
      · rw [List.mem_singleton] at hx
        subst hx
        exact lv_n 0 _
  · show PyData.tuple [tupN 2 (nD n), .tuple ((gs.map fun g => PyData.list [nD g.1, nD g.2]).map (tupN 1))] = _
    rw [tupN_nD, List.map_map]
    rfl
theorem lstN_r (p : List Nat) : lstN 1 (rD p) = lD p := by
  show PyData.list ((p.map nD).map (lstN 0)) = _
  rw [List.map_map]
  rfl
/-! equality -/
theorem eqv_oD (a b : Option Nat) : PyData.eqv (oD a) (oD b) = decide (a = b) := by
  cases a with
  | none =>
    cases b with
    | none => show PyData.eqv .none .none = _; rw [PyData.eqv]; rfl
    | some m => show PyData.eqv .none (.int _) = _; rw [PyData.eqv]; rfl
  | some n =>
    cases b with
    | none => show PyData.eqv (.int _) .none = _; rw [PyData.eqv]; rfl
    | some m =>
      show PyData.eqv (.int _) (.int _) = _
      rw [PyData.eqv]
      by_cases h : n = m
      · subst h; simp
      · rw [decide_eq_false (fun q => h (Option.some.inj q)), beq_eq_false_iff_ne]
        exact fun q => h (Int.ofNat.inj q)
theorem eqv_nD (a b : Nat) : PyData.eqv (nD a) (nD b) = decide (a = b) := by
  rw [show nD a = oD (some a) from rfl, show nD b = oD (some b) from rfl, eqv_oD]
  exact decide_eq_decide.mpr ⟨Option.some.inj, congrArg some⟩
theorem eqvAll_map {α : Type} [DecidableEq α] {f : α → PyData} (h : ∀ a b, PyData.eqv (f a) (f b) = decide (a = b)) : ∀ xs ys : List α, PyData.eqvAll (xs.map f) (ys.map f) = decide (xs = ys)
  | [], [] => by rw [List.map_nil, PyData.eqvAll]; rfl
  | [], _ :: _ => by rw [List.map_nil, List.map_cons, PyData.eqvAll]; rfl
  | _ :: _, [] => by rw [List.map_nil, List.map_cons, PyData.eqvAll]; rfl
  | x :: xs, y :: ys => by
    rw [List.map_cons, List.map_cons, PyData.eqvAll, h, eqvAll_map h xs ys]
    by_cases h1 : x = y <;> by_cases h2 : xs = ys <;> simp [h1, h2]
theorem eqv_rD (p q : List Nat) : PyData.eqv (rD p) (rD q) = decide (p = q) := by
  rw [rD, rD, PyData.eqv]
  exact eqvAll_map eqv_nD p q
theorem eqv_tD (p q : List (Option Nat)) : PyData.eqv (tD p) (tD q) = decide (p = q) := by
  rw [tD, tD, PyData.eqv]
  exact eqvAll_map eqv_oD p q
theorem eqv_lD (p q : List Nat) : PyData.eqv (lD p) (lD q) = decide (p = q) := by
  rw [lD, lD, PyData.eqv]
  exact eqvAll_map eqv_nD p q
/-! places -/
theorem atI_nat {α : Type} {xs : List α} {i : Nat} {x : α} (h : xs[i]? = some x) : atI xs ((i : Nat) : Int) = some x := by
  have hi := (List.getElem?_eq_some_iff.mp h).1
  unfold atI ixN
  rw [if_pos (by omega), if_pos (by omega)]
  exact h
theorem atI_last' {α : Type} {xs : List α} {x : α} (h : xs.getLast? = some x) : atI xs (-1) = some x := by
  have hl : 0 < xs.length := by
    cases xs with
    | nil => cases h
    | cons a l => simp
  unfold atI ixN
  rw [if_neg (by decide), if_pos (by omega)]
  show xs[(-1 + (xs.length : Int)).toNat]? = some x
  rw [show (-1 + (xs.length : Int)).toNat = xs.length - 1 by omega, ← List.getLast?_eq_getElem?]
  exact h
theorem map_at {α β : Type} {f : α → β} {xs : List α} {i : Nat} {x : α} (h : xs[i]? = some x) : (xs.map f)[i]? = some (f x) := by
  rw [List.getElem?_map, h]
  rfl
end Lw
/-! text D1 -/
set_option Elab.async false
set_option linter.all false
set_option maxRecDepth 100000
set_option maxHeartbeats 2000000
namespace Lw
open PySem PySem.Spec PyProof.Rows L2
section
variable {P : Program} {w : World} {K : PySem.W.Frag} {mg : Str → Option Value} {base : Heap}
/-! ### is_number(thing) -/
def R_is_number : List PyData → PyData → Prop := fun ds d => ∃ i, ds = [.int i] ∧ d = .bool true
theorem sc_is_number : FnScope ["thing"] ["thing"] (defScope s_is_number) := ⟨rfl, rfl, rfl, by decide +kernel, rfl, by decide +kernel, by decide +kernel⟩
theorem c_is_number (T : Tx mg) (D : Dn K mg "is_number" s_is_number ["thing"]) : Cal P w K mg base 1 "is_number" (Pr K R_is_number) := by
  refine D.pr sc_is_number (fun ds d h => by obtain ⟨x, rfl, _⟩ := h; rfl) (fun f cdv A outer s H E vs ds d hr h hv => ?_)
  obtain ⟨i, rfl, rfl⟩ := h
  obtain ⟨v0, rfl, h0⟩ := dp1 hv
  refine ⟨_, pss_one (ps_ret (pe_and (pe_isi K T (pv 0) (ty_int T)) (pe_one (pe_not (pe_isi K T (pv 0) (ty_bool T)))))), fun Q q => ?_⟩
  exact fin q (Same.refl _) (ev_and (ev_isi (ev_var rfl h0).toJ kit_int_int) fun _ => ev_not (ev_isi (ev_var rfl h0).toJ kit_int_bool))
/-! ### is_from(thing, least) -/
def R_is_from : List PyData → PyData → Prop := fun ds d => ∃ i j : Int, ds = [.int i, .int j] ∧ j ≤ i ∧ d = .bool true
theorem sc_is_from : FnScope ["thing", "least"] ["thing", "least"] (defScope s_is_from) := ⟨rfl, rfl, rfl, by decide +kernel, rfl, by decide +kernel, by decide +kernel⟩
theorem c_is_from (D : Dn K mg "is_from" s_is_from ["thing", "least"]) (c : Cal P w K mg base 1 "is_number" (Pr K R_is_number)) : Cal P w K mg base 2 "is_from" (Pr K R_is_from) := by
  refine D.pr sc_is_from (fun ds d h => by obtain ⟨x, y, rfl, _⟩ := h; rfl) (fun f cdv A outer s H E vs ds d hr h hv => ?_)
  obtain ⟨i, j, rfl, hij, rfl⟩ := h
  obtain ⟨v0, v1, rfl, h0, h1⟩ := dp2 hv
  refine ⟨_, pss_one (ps_ret (pe_and (pe_ca c hr (by decide) rfl (pa_cons (pv 0) pa_nil)) (pe_one (pe_cmpR op_ge (pv 0) (pv 1) (nomark _))))), fun Q q => ?_⟩
  exact fin q (Same.refl _) (ev_and (ev_call (ea_one (ev_var rfl h0)) ⟨i, rfl, rfl⟩) fun _ => ev_I0 (ev_var rfl h0) (ev_var rfl h1) (fun _ => .bl _)) (by simp [hij])
/-! ### is_within(thing, least, most) -/
def R_is_within : List PyData → PyData → Prop := fun ds d => ∃ i j k : Int, ds = [.int i, .int j, .int k] ∧ j ≤ i ∧ i ≤ k ∧ d = .bool true
theorem sc_is_within : FnScope ["thing", "least", "most"] ["thing", "least", "most"] (defScope s_is_within) := ⟨rfl, rfl, rfl, by decide +kernel, rfl, by decide +kernel, by decide +kernel⟩
theorem c_is_within (D : Dn K mg "is_within" s_is_within ["thing", "least", "most"]) (c : Cal P w K mg base 1 "is_number" (Pr K R_is_number)) : Cal P w K mg base 2 "is_within" (Pr K R_is_within) := by
  refine D.pr sc_is_within (fun ds d h => by obtain ⟨x, y, z, rfl, _⟩ := h; rfl) (fun f cdv A outer s H E vs ds d hr h hv => ?_)
  obtain ⟨i, j, k, rfl, hij, hik, rfl⟩ := h
  obtain ⟨v0, v1, v2, rfl, h0, h1, h2⟩ := dp3 hv
  refine ⟨_, pss_one (ps_ret (pe_and (pe_ca c hr (by decide) rfl (pa_cons (pv 0) pa_nil)) (pe_one (pe_chain op_le op_le (pv 1) (pv 0) (pv 2))))), fun Q q => ?_⟩
  exact fin q (Same.refl _) (ev_and (ev_call (ea_one (ev_var rfl h0)) ⟨i, rfl, rfl⟩) fun _ => ev_chain (ev_var rfl h1) (ev_var rfl h0) (ev_var rfl h2)) (by simp [hij, hik])
/-! ### is_long(thing, length) -/
def R_is_long : List PyData → PyData → Prop := fun ds d => ∃ xs : List PyData, ds = [.tuple xs, nD xs.length] ∧ d = .bool true
theorem sc_is_long : FnScope ["thing", "length"] ["thing", "length"] (defScope s_is_long) := ⟨rfl, rfl, rfl, by decide +kernel, rfl, by decide +kernel, by decide +kernel⟩
theorem c_is_long (T : Tx mg) (D : Dn K mg "is_long" s_is_long ["thing", "length"]) : Cal P w K mg base 1 "is_long" (Pr K R_is_long) := by
  refine D.pr sc_is_long (fun ds d h => by obtain ⟨x, rfl, _⟩ := h; rfl) (fun f cdv A outer s H E vs ds d hr h hv => ?_)
  obtain ⟨xs, rfl, rfl⟩ := h
  obtain ⟨v0, v1, rfl, h0, h1⟩ := dp2 hv
  refine ⟨_, pss_one (ps_ret (pe_and (pe_isi K T (pv 0) (ty_tuple T)) (pe_one (pe_cmpR op_eq (pe_len K T (pv 0)) (pv 1) (nomark _))))), fun Q q => ?_⟩
  exact fin q (Same.refl _) (ev_and (ev_isi (ev_var rfl h0).toJ kit_tuple_tuple) fun _ => ev_eqI (ev_lenT (ev_var rfl h0)) (ev_var rfl h1)) (by simp)
/-! ### tupled(value) -/
def R_tupled (n : Nat) : List PyData → PyData → Prop := fun ds d => ∃ x, ds = [x] ∧ Lv n x ∧ d = tupN n x
theorem sc_tupled : FnScope ["value", "own"] ["value"] (defScope s_tupled) := ⟨rfl, rfl, rfl, by decide +kernel, rfl, by decide +kernel, by decide +kernel⟩
/-- the level of tupled at most n deep -/
theorem tupN_leaf {n : Nat} {x : PyData} (h : leafB x = true) : tupN n x = x := by
  cases n with
  | zero => rfl
  | succ n => cases x <;> first | rfl | cases h
theorem leaf_kit {x : PyData} (h : leafB x = true) : kitB (tyD x) "list" = some false ∧ kitB (tyD x) "tuple" = some false := by
  cases x with
  | none => exact ⟨kit_NoneType_list, kit_NoneType_tuple⟩
  | bool b => exact ⟨kit_bool_list, kit_bool_tuple⟩
  | int b => exact ⟨kit_int_list, kit_int_tuple⟩
  | str b => exact ⟨kit_str_list, kit_str_tuple⟩
  | _ => cases h
theorem c_tupled (T : Tx mg) (D : Dn K mg "tupled" s_tupled ["value"]) : ∀ n, Cal P w K mg base (n + 1) "tupled" (Pr K (R_tupled n)) := by
  intro n
  induction n with
  | zero =>
    refine D.pr sc_tupled (fun ds d h => by obtain ⟨x, rfl, _⟩ := h; rfl) (fun f cdv A outer s H E vs ds d hr h hv => ?_)
    obtain ⟨x, rfl, hx, rfl⟩ := h
    obtain ⟨v0, rfl, h0⟩ := dp1 hv
    refine ⟨_, pss_one (ps_ret (pe_ifExp (pt_val (pe_isi2 K T (pv 0) (pe_tup (pa_cons (ty_list T) (pa_cons (ty_tuple T) pa_nil))))) pe_no (pv 0))), fun Q q => ?_⟩
    obtain ⟨k1, k2⟩ := leaf_kit hx
    exact fin q (Same.refl _) (ev_ifF (eb_B (ev_isi2 (ev_var rfl h0).toJ k1 k2 rfl)) (ev_var rfl h0))
  | succ n ih =>
    refine D.pr sc_tupled (fun ds d h => by obtain ⟨x, rfl, _⟩ := h; rfl) (fun f cdv A outer s H E vs ds d hr h hv => ?_)
    obtain ⟨x, rfl, hx, rfl⟩ := h
    obtain ⟨v0, rfl, h0⟩ := dp1 hv
    by_cases isT : ∃ xs, x = .tuple xs
    · obtain ⟨xs, rfl⟩ := isT
      obtain ⟨hl, hx⟩ : xs.length ≤ 1000 ∧ ∀ y ∈ xs, Lv n y := by
        rcases hx with h | ⟨ys, h1, h2, h3⟩
        · cases h
        · rcases h1 with h1 | h1 <;> cases h1
          exact ⟨h2, h3⟩
      refine ⟨_, pss_one (ps_ret (pe_ifExp (pt_val (pe_isi2 K T (pv 0) (pe_tup (pa_cons (ty_list T) (pa_cons (ty_tuple T) pa_nil)))))
        (pe_tupOf K T (lcA 1 sc_tupled.nd (wi_tup K (pv 0))
          (fun _ _ _ _ _ => pe_ca ih hr (Nat.le_refl _) rfl (pa_cons (pv 1) pa_nil)))) (pv 0))), fun Q q => ?_⟩
      refine fin q (Same.refl _) (ev_ifT (eb_B (ev_isi2 (ev_var rfl h0).toJ kit_tuple_list kit_tuple_tuple rfl)) (ev_tupOf (evm_lcA xs id (tupN n) ?_ (by omega) fun a ha D acc hD G1 x1 s dj hx1 => ⟨rfl, ev_call (ea_one (ev_var rfl hx1)) ⟨a, rfl, hx a ha, rfl⟩⟩).toE.toS))
      rw [List.map_id]
      exact ei_tup (ev_var rfl h0)
    · by_cases isL : ∃ xs, x = .list xs
      · obtain ⟨xs, rfl⟩ := isL
        obtain ⟨hl, hx⟩ : xs.length ≤ 1000 ∧ ∀ y ∈ xs, Lv n y := by
          rcases hx with h | ⟨ys, h1, h2, h3⟩
          · cases h
          · rcases h1 with h1 | h1 <;> cases h1
            exact ⟨h2, h3⟩
        refine ⟨_, pss_one (ps_ret (pe_ifExp (pt_val (pe_isi2 K T (pv 0) (pe_tup (pa_cons (ty_list T) (pa_cons (ty_tuple T) pa_nil)))))
          (pe_tupOf K T (lcA 1 sc_tupled.nd (wi_list K (pv 0))
            (fun _ _ _ _ _ => pe_ca ih hr (Nat.le_refl _) rfl (pa_cons (pv 1) pa_nil)))) (pv 0))), fun Q q => ?_⟩
        refine fin q (Same.refl _) (ev_ifT (eb_B (ev_isi2 (ev_var rfl h0).toJ kit_list_list kit_list_tuple rfl)) (ev_tupOf (evm_lcA xs id (tupN n) ?_ (by omega) fun a ha D acc hD G1 x1 s dj hx1 => ⟨rfl, ev_call (ea_one (ev_var rfl hx1)) ⟨a, rfl, hx a ha, rfl⟩⟩).toE.toS))
        rw [List.map_id]
        exact ei_list (ev_var rfl h0)
      · have hx : leafB x = true := by
          rcases hx with h | ⟨ys, h1, _⟩
          · exact h
          · rcases h1 with h1 | h1
            · exact absurd ⟨ys, h1⟩ isL
            · exact absurd ⟨ys, h1⟩ isT
        refine ⟨_, pss_one (ps_ret (pe_ifExp (pt_val (pe_isi2 K T (pv 0) (pe_tup (pa_cons (ty_list T) (pa_cons (ty_tuple T) pa_nil))))) pe_no (pv 0))), fun Q q => ?_⟩
        obtain ⟨k1, k2⟩ := leaf_kit hx
        exact fin q (Same.refl _) (ev_ifF (eb_B (ev_isi2 (ev_var rfl h0).toJ k1 k2 rfl)) (ev_var rfl h0)) (tupN_leaf hx).symm
end
end Lw
/-! text D2 -/
set_option Elab.async false
set_option linter.all false
set_option maxRecDepth 100000
set_option maxHeartbeats 2000000
namespace Lw
open PySem PySem.Spec PyProof.Rows L2
section
variable {P : Program} {w : World} {K : PySem.W.Frag} {mg : Str → Option Value} {base : Heap}
/-! ### is_guest_of(many, thing) -/
def R_is_guest_of : List PyData → PyData → Prop := fun ds d => ∃ (n : Nat) (g : Nat × Nat), ds = [nD n, gD g] ∧ (g.1 < n ∧ g.2 < n ∧ g.1 ≠ g.2) ∧ d = .bool true
theorem sc_is_guest_of : FnScope ["many", "thing", "own"] ["many", "thing"] (defScope s_is_guest_of) := ⟨rfl, rfl, rfl, by decide +kernel, rfl, by decide +kernel, by decide +kernel⟩
theorem c_is_guest_of (T : Tx mg) (D : Dn K mg "is_guest_of" s_is_guest_of ["many", "thing"]) (cL : Cal P w K mg base 1 "is_long" (Pr K R_is_long)) (cW : Cal P w K mg base 2 "is_within" (Pr K R_is_within)) : Cal P w K mg base 3 "is_guest_of" (Pr K R_is_guest_of) := by
  refine D.pr sc_is_guest_of (fun ds d h => by obtain ⟨n, g, rfl, _⟩ := h; rfl) (fun f cdv A outer s H E vs ds d hr h hv => ?_)
  obtain ⟨n, g, rfl, ⟨g1, g2, g3⟩, rfl⟩ := h
  obtain ⟨v0, v1, rfl, h0, h1⟩ := dp2 hv
  refine ⟨_, pss_one (ps_ret (pe_and (pe_ca cL hr (by decide) rfl (pa_cons (pv 1) (pa_cons pe_int pa_nil))) (pe_and
    (pe_all K T rfl (lcA 2 sc_is_guest_of.nd (wi_tup K (pv 1))
      (fun _ _ _ _ _ => pe_ca cW hr (by decide) rfl (pa_cons (pv 2) (pa_cons pe_int (pa_cons (pe_op op_sub (pv 0) pe_int) pa_nil))))))
    (pe_one (pe_cmpR op_ne (xT K (pv 1) pe_int) (xT K (pv 1) pe_int) (nomark _)))))), fun Q q => ?_⟩
  refine fin q (Same.refl _) (ev_and (ev_call (ea_two (ev_var rfl h1) ev_int) ⟨_, rfl, rfl⟩) fun _ => ev_and (ev_all (bs := [true, true]) (evm_lcA [g.1, g.2] nD (fun _ => .bool true) (ei_tup (ev_var rfl h1)) (by show 2 ≤ 100000; decide) ?_).toE.toS) fun _ => ev_neI (ev_ixT (ev_var rfl h1) ev_int rfl) (ev_ixT (ev_var rfl h1) ev_int rfl)) (by simp; omega)
  refine fun a ha D acc hD G1 x1 s dj hx1 => ⟨rfl, ev_call (ea_cons (ev_var rfl hx1) (ea_two ev_int (ev_I0 (ev_var rfl (h0.mono s)) ev_int (fun _ => .int _)))) ⟨_, _, _, rfl, ?_, ?_, rfl⟩⟩
  · omega
  · rcases List.mem_cons.mp ha with rfl | ha
    · omega
    · rw [List.mem_singleton] at ha
      subst ha
      omega
/-! ### is_web(thing) -/
def R_is_web : List PyData → PyData → Prop := fun ds d => ∃ (n : Nat) (gs : Gs), ds = [webD n gs] ∧ 1 ≤ n ∧ WebOk n gs ∧ gs.length ≤ 1000 ∧ d = .bool true
theorem sc_is_web : FnScope ["thing", "own"] ["thing"] (defScope s_is_web) := ⟨rfl, rfl, rfl, by decide +kernel, rfl, by decide +kernel, by decide +kernel⟩
theorem c_is_web (T : Tx mg) (D : Dn K mg "is_web" s_is_web ["thing"]) (cL : Cal P w K mg base 1 "is_long" (Pr K R_is_long)) (cF : Cal P w K mg base 2 "is_from" (Pr K R_is_from)) (cG : Cal P w K mg base 3 "is_guest_of" (Pr K R_is_guest_of)) : Cal P w K mg base 4 "is_web" (Pr K R_is_web) := by
  refine D.pr sc_is_web (fun ds d h => by obtain ⟨n, g, rfl, _⟩ := h; rfl) (fun f cdv A outer s H E vs ds d hr h hv => ?_)
  obtain ⟨n, gs, rfl, hn, hw, hl, rfl⟩ := h
  obtain ⟨v0, rfl, h0⟩ := dp1 hv
  refine ⟨_, pss_cons (ps_if (PW.pt (pw_or (pt_not (pt_val (pe_ca cL hr (by decide) rfl (pa_cons (pv 0) (pa_cons pe_int pa_nil))))) (pw_or (pt_not (pt_val (pe_ca cF hr (by decide) rfl (pa_cons (xT K (pv 0) pe_int) (pa_cons pe_int pa_nil)))))
      (pw_or1 (pt_not (pt_val (pe_isi K T (xT K (pv 0) pe_int) (ty_tuple T)))))))) (pss_one ps_never) pss_nil)
    (pss_one (ps_ret (pe_all K T rfl (lcA 1 sc_is_web.nd (wi_tup K (xT K (pv 0) pe_int))
      (fun _ _ _ _ _ => pe_ca cG hr (by decide) rfl (pa_cons (xT K (pv 0) pe_int) (pa_cons (pv 1) pa_nil))))))), fun Q q => ?_⟩
  refine s_ifF (eb_or (eb_not (eb_B (ev_call (ea_two (ev_var rfl h0) ev_int) ⟨_, rfl, rfl⟩))) fun _ => eb_or (eb_not (eb_B (ev_call (ea_two (ev_ixT (ev_var rfl h0) ev_int rfl) ev_int) ⟨_, _, rfl, (by show (1 : Int) ≤ (n : Int); omega), rfl⟩))) fun _ => eb_not (eb_B (ev_isi (d := .tuple (gs.map gD)) (ev_ixT (ev_var rfl h0) ev_int rfl).toJ kit_tuple_tuple))) (dj_nil _) rfl fun G2 s2 dj2 => ?_
  refine fin q s2 (ev_all (bs := gs.map fun _ => true) ?_) (by simp)
  rw [List.map_map]
  refine (evm_lcA gs gD (fun _ => .bool true) (ei_tup (ev_ixT (ev_var rfl (h0.mono s2)) ev_int rfl)) (by omega) fun a ha D acc hD G1 x1 s dj hx1 => ⟨rfl, ev_call (ea_two (ev_ixT (ev_var rfl (h0.mono (s2.trans s))) ev_int rfl) (ev_var rfl hx1)) ⟨n, a, rfl, hw a ha, rfl⟩⟩).toE.toS
/-! ### sure_web(web) -/
def R_sure_web : List PyData → PyData → Prop := fun ds d => ∃ (x : PyData) (n : Nat) (gs : Gs), ds = [x] ∧ As 3 x (webD n gs) ∧ 1 ≤ n ∧ WebOk n gs ∧ gs.length ≤ 1000 ∧ d = webD n gs
theorem sc_sure_web : FnScope ["web", "own"] ["web"] (defScope s_sure_web) := ⟨rfl, rfl, rfl, by decide +kernel, rfl, by decide +kernel, by decide +kernel⟩
theorem c_sure_web (D : Dn K mg "sure_web" s_sure_web ["web"]) (cT : Cal P w K mg base 4 "tupled" (Pr K (R_tupled 3))) (cW : Cal P w K mg base 4 "is_web" (Pr K R_is_web)) : Cal P w K mg base 5 "sure_web" (Pr K R_sure_web) := by
  refine D.pr sc_sure_web (fun ds d h => by obtain ⟨x, n, g, rfl, _⟩ := h; rfl) (fun f cdv A outer s H E vs ds d hr h hv => ?_)
  obtain ⟨x, n, gs, rfl, ⟨hx1, hx2⟩, hn, hw, hl, rfl⟩ := h
  obtain ⟨v0, rfl, h0⟩ := dp1 hv
  refine ⟨_, pss_cons (ps_set (i := 1) sc_sure_web.nd rfl (Or.inl rfl) (pe_ca cT hr (by decide) rfl (pa_cons (pv 0) pa_nil)))
    (pss_cons (ps_if (pt_not (pt_val (pe_ca cW hr (by decide) rfl (pa_cons (pv 1) pa_nil)))) (pss_one ps_never) pss_nil) (pss_one (ps_ret (pv 1)))), fun Q q => ?_⟩
  refine s_set (ev_call (ea_one (ev_var rfl h0)) ⟨x, rfl, hx1, rfl⟩) (dj_nil _) fun v1 G1 s1 dj1 h1 => ?_
  rw [hx2] at h1
  exact s_ifF (eb_not (eb_B (ev_call (ea_one (ev_var rfl h1)) ⟨n, gs, rfl, hn, hw, hl, rfl⟩))) dj1 rfl fun G2 s2 dj2 => fin q (s1.trans s2) (ev_var rfl (h1.mono s2))
end
end Lw
/-! text K5 -/
set_option Elab.async false
set_option linter.all false
set_option maxRecDepth 100000
set_option maxHeartbeats 2000000
/-! Own rules: what the hand layer lacks for this program. -/
namespace Lw
open PySem PySem.Spec PyProof.Rows L2
section
variable {X : Cx} {a b : Expr} {ta tb : TE} {p p2 pos pos2 q : Pos} {k : Nat}
/-! ### raise C(), C an own class without own __init__ -/
theorem pmk_own0 {C : Addr} {bmB : List Value} {B newId initId : String} {x : Str} (F : ExcBaseFacts B newId initId bmB) (hq : PySem.W.excIn X.K C bmB newId = true) (gC : X.mg x = some (.ref C))
    (kC : PySem.W.keepIn X.K (.ref C) = true) (r : Raises X (.ref C)) (hg : Gl X x) (hdb : (x == ("__debug__" : Str)) = false := by decide) : PMk X (.Call (.Name x p) [] [] pos) (fun _ H Q => Q (.ref C) none H) := by
  intro pins s σ H Q I h
  refine wpAny_Call_Name_kw (ld_glob I hg gC ?_ hdb)
  refine PySem.W.callWith_K0 I.kIn kC ?_
  obtain ⟨bm, N, nm, qn, bs, hdct, sn, sub, ab, col, dd, k0, k1, k2, k3, k5, mN, hC, hN, hni, T⟩ := exc_obj I.kIn hq
  obtain ⟨hp, g, d, t, os⟩ := s
  exact wpAny_call_exc_subT (rest := []) F T hC hN hni (fun h' e hm => mk_of I hm r h (I.hok.gone hm.new)) (Nat.zero_le _)
/-! ### len(set(t)), t a tuple of unlike ints -/
def tLenSetT (K : PySem.W.Frag) (ta : TE) : TE := fun σ H Q => ta σ H fun x H1 => ∃ (l : Addr) (ns : List Int), x = .ref l ∧ SqT K H1 l (ns.map V.int) ∧ ns.Nodup ∧ ns.length ≤ 1000 ∧ Q (.int (ns.length : Nat)) H1
theorem pe_lenSetT (K : PySem.W.Frag) (T : Tx X.mg) (ha : PE X a ta) (hK : X.K = K := by rfl) (hg : Gl X "len" := by rfl) (hg2 : Gl X "set" := by rfl) (hc : X.calm = true := by rfl)
    (na : starEach [a] X.env = (false, eval a X.env) :: starEach [] X.env := by rfl) : PE X (.Call (.Name "len" p) [.Call (.Name "set" p2) [a] [] q] [] pos) (tLenSetT K ta) := by
  subst hK
  refine ⟨fun pins s σ H Q I h => ?_⟩
  refine Call_ (ld_blt I hg T.len_ PySem.boot_len (PyProof.Rows.callWith_builtin1 (PyProof.Rows.args_cons ?_ rfl) rfl rfl))
  refine Call_ (ld_blt I hg2 T.set_ PyProof.Rows.boot_set (PyProof.Rows.callWith_type1 (PyProof.Rows.args_cons (thn (ha.run pins s σ H _ I h) fun v s1 hh => PyProof.Rows.args_nil ?_) na) na rfl))
  obtain ⟨x, H1, I1, r1, l, ns, rfl, hq, hnd, hl, q1⟩ := hh
  cases r1
  obtain ⟨its, r, pl, hz⟩ := I1.tuple hq
  refine call_set_tupI ns (I1.ok.hd hc) (show s1.heap.IsTuple l its.toArray from pl) (by simpa using ints_of_vals r) (by unfold scanBound; omega) fun h' tk c R hcn kp => PyProof.Rows.args_nil ?_
  obtain ⟨o, es, ep, t, ho, hex, hd, g, nd, hm, hb, hf, hn, hr⟩ := R
  have same : (es.toList.map keyOf).Perm ns := (List.perm_ext_iff_of_nodup nd hnd).mpr fun j => by rw [← hm j, decide_eq_true_eq]
  have e : es.size = ns.length := by
    have z := same.length_eq
    rw [List.length_map, Array.length_toList] at z
    exact z
  have I2 : Inv X pins σ H1 { s1 with heap := h', toks := tk } := I1.kept kp
  exact call_len_set ho hex hd hf (by omega) ⟨.int ns.length, H1, I2.tok _, ⟨_, by rw [e]⟩, q1⟩
/-! ### t.index(k), t a tuple of ints -/
def rIdxT (K : PySem.W.Frag) : V → List V → Hp → VK → Prop := fun x xs H Q => ∃ (l : Addr) (ns : List Int) (j : Int), x = .ref l ∧ xs = [.int j] ∧ SqT K H l (ns.map V.int) ∧ j ∈ ns ∧ Q (.int (ns.idxOf j : Nat)) H
theorem mt_idxT : MtR X "tuple.index" (rIdxT X.K) := by
  intro pins s σ H x xs v us Q I rx rs h
  obtain ⟨l, ns, j, rfl, rfl, hq, hj, h⟩ := h
  cases rx
  obtain ⟨u, rfl, t, rfl⟩ := vals1 rs
  obtain ⟨its, r, pl, hz⟩ := I.tuple hq
  exact PySem.SeqAt.tuple_index_ints (show s.heap.IsTuple l its.toArray from pl) (ints_of_vals r) hj ⟨.int _, H, I.tok _, ⟨_, rfl⟩, h⟩
/-! ### sorted(t), t a tuple of ints -/
section
variable {prog : Program} {w : World} {A : Around} {E : Value → Shared → Prop} {s : Shared}
theorem collectT {l : Addr} {vs : List Value} {Q : List Value → Shared → Prop} (hl : s.heap.IsTuple l vs.toArray) (hz : vs.length ≤ sizeLine)
    (h : Q vs { s with heap := (s.heap.push (seqObj "list" #[] 0)).update s.heap.objs.size (Obj.mapSeq (· ++ vs.toArray)) }) : wpAny (model prog w) A (collect (.ref l)) Q E s := by
  obtain ⟨ot, ht, ct, n, dt⟩ := hl
  unfold collect
  refine wpAny_bind (wpAny_runValue (codeAny_builtin entry_proto_collect' ?_))
  refine wpAny_bind (wpAny_newList (wpAny_pure ⟨Code.quiet_builtin _ (by decide +kernel), codeAny_builtin entry_list_iadd' ?_⟩))
  have here : (s.heap.push (seqObj "list" #[] 0)).get? s.heap.objs.size = some (seqObj "list" #[] 0) := Heap.get?_push_size _ rfl
  have there : (s.heap.push (seqObj "list" #[] 0)).get? l = some ot := Heap.get?_push_of_some _ ht
  show wpAny _ _ (Builtin.List.listExtendWith (.ref s.heap.objs.size) (.ref l) (.ref s.heap.objs.size)) _ _ _
  unfold Builtin.List.listExtendWith
  refine wpAny_bind (wpAny_typeOf (T := "tuple") ⟨ot, there, ct⟩ ?_)
  rw [if_pos (by rw [show (Value.type "tuple" == Value.type "tuple") = true by decide +kernel, Bool.or_true])]
  refine wpAny_bind (listItems_at there dt (wpAny_bind (listItems_at (xs := #[]) (n := 0) here rfl ?_)))
  rw [if_neg (by simp)]
  refine wpAny_bind (listUpdate_at (xs := #[]) (n := 0) here rfl (wpAny_pure (wpAny_bind (wpAny_load (get?_update_seq here _) ?_))) (Nat.zero_le _) (by
    show (#[] ++ vs.toArray).size ≤ sizeLine + 1
    simp only [Array.size_append, List.size_toArray, List.length_nil]
    omega))
  refine wpAny_pure ?_
  rw [show ((#[] : Array Value) ++ vs.toArray).toList = vs by simp]
  exact h
theorem sortedT {l : Addr} {vs : List Value} {lt : Value → Value → Bool} {Q : Value → Shared → Prop} (O : SrtO.Swo lt) (hl : s.heap.IsTuple l vs.toArray) (hz : vs.length ≤ sizeLine)
    (hS : 2 ≤ vs.length → ∀ (h₁ : Heap) (a : Addr), SrtO.SortableO prog w A.in1.in1 { s with heap := h₁ } a vs lt)
    (h : ∀ out : List Value, SrtO.Srtd lt out → SrtO.Stb lt out vs → Q (.ref (s.heap.objs.size + 1)) { s with heap := PyProof.Rows.sortedAll s.heap vs out.toArray }) : wpAny (model prog w) A (call (.builtin "sorted") [.ref l]) Q E s := by
  refine Calls.call_function_entry kind_sorted plain_sorted entry_sorted (args_sorted1 _) ?_
  unfold Builtin.«sorted»
  refine wpAny_bind (m := checkCount "sorted" 1 1 _) (wpAny_pure (wpAny_bind (collectT hl hz (wpAny_bind (wpAny_newList ?_ hz)))))
  have size1 : ((s.heap.push (seqObj "list" #[] 0)).update s.heap.objs.size (Obj.mapSeq (· ++ vs.toArray))).objs.size = s.heap.objs.size + 1 := by
    rw [Heap.size_update, size_push']
  have new : (((s.heap.push (seqObj "list" #[] 0)).update s.heap.objs.size (Obj.mapSeq (· ++ vs.toArray))).push (seqObj "list" vs.toArray 0)).get? (s.heap.objs.size + 1) = some (seqObj "list" vs.toArray 0) := by
    rw [← size1]
    exact Heap.get?_push_size _ rfl
  show wpAny _ _ _ _ _ { s with heap := ((s.heap.push (seqObj "list" #[] 0)).update s.heap.objs.size (Obj.mapSeq (· ++ vs.toArray))).push (seqObj "list" vs.toArray 0) }
  rw [size1]
  refine wpAny_bind (wpAny_holding (wpAny_call_entry slot_list_sort ⟨_, new, rfl⟩ entry_list_sort (SrtO.list_sort_ord O new hz (fun h2 => hS h2 _ _) fun out h1 h2 => ⟨_, rfl, ?_⟩) (args_list_sort _)))
  exact wpAny_pure ⟨_, rfl, h out h1 h2⟩
end
def rSortedT (K : PySem.W.Frag) : List V → Hp → VK → Prop := fun vs H Q => ∃ (l : Addr) (ns : List Int), vs = [V.ref l] ∧ SqT K H l (ns.map V.int) ∧ ∀ (ns' : List Int) (p : Addr), ns'.Perm ns → ns'.Pairwise (· ≤ ·) → H p = none → Q (.ref p) (upd H p (.lst (ns'.map V.int)))
theorem cr_sortedT : CallR X (.builtin "sorted") (rSortedT X.K) := by
  intro pins s σ H vs us Q I r h
  obtain ⟨l, ns, rfl, hq, q⟩ := h
  obtain ⟨its, rv, pl, hz⟩ := I.tuple hq
  rw [Vals.ref1 r]
  have hi := rv.ints
  refine sortedT SrtO.swo_int (show s.heap.IsTuple l its.toArray from pl) (by rw [← rv.length]; exact hz) (fun h2 h₁ a => SrtO.ints_sortable hi h2) fun out h1 h2 => ?_
  obtain ⟨k1, k2, k3⟩ := SrtO.ints_out hi h1 h2
  obtain ⟨ep, he⟩ := PyProof.Rows.sortedAll_at s.heap its out.toArray
  refine ⟨.ref _, _, I.laid (t' := s.toks) (o := .lst ((out.map SrtO.iv).map V.int)) (fun _ _ => PyProof.Rows.sortedAll_old) (Nat.le_succ _) ⟨?_, out, ep, vals_of_ints k1, he⟩, rfl, q _ _ k2 k3 (I.hok.fresh (Nat.le_succ _))⟩
  rw [List.length_map, k2.length_eq]
  rw [List.length_map] at hz
  exact hz
end
/-! ### for i, x in enumerate(t), t a tuple -/
/-- the tuple at a, each item in a new pair with its place -/
def IteT (K : PySem.W.Frag) (a : Addr) : It :=
  ⟨fun i H => ∃ (xs : List V) (x : V), SqT K H a xs ∧ xs[i]? = some x, fun i H v H' => ∃ Tn x, v = .ref Tn ∧ H Tn = none ∧ H' = upd H Tn (.tup [.int (i : Nat), x]) ∧ ∀ xs, SqT K H a xs → xs[i]? = some x, fun i H => ∃ xs : List V, SqT K H a xs ∧ xs.length = i⟩
theorem turn_enumT {P : Program} {w : World} {K : PySem.W.Frag} {elts : List Expr} {kk : Nat} {tpos : Pos} (a e it : Addr) :
    Turn P w K (.Tuple elts kk tpos) (IteT K a) [e, it] e (fun i h => ((∃ old, IsEnum h e it ((i : Nat) : Int) old) ∧ h.IsTupleIter it a i) ∧ e ≠ it ∧ a ≠ it ∧ a ≠ e) where
  mem := List.mem_cons_self
  obj := by
    rintro i h ⟨⟨⟨old, he⟩, o, ho, hc, hd⟩, _⟩ b hb
    rcases List.mem_cons.mp hb with rfl | hb
    · exact ⟨_, he, fun v q => nomatch q⟩
    · rw [List.mem_singleton] at hb
      subst hb
      exact ⟨o, ho, fun v q => by rw [hd] at q; cases q⟩
  keep := by
    rintro i h h' ⟨⟨⟨old, he⟩, hi⟩, ne⟩ kp
    exact ⟨⟨⟨old, kp e List.mem_cons_self _ he⟩, hi.at fun o q => kp it (by simp) o q⟩, ne⟩
  item := by
    rintro X rfl rfl rfl hc i pins s σ H E I hf ⟨⟨⟨old, he⟩, hit⟩, ne, na, nb⟩ ⟨xs, x, hq, hx⟩
    obtain ⟨its, rv, pl, hz⟩ := I.tuple hq
    obtain ⟨u, hu, ru⟩ := rv.get hx
    have le : e < s.heap.objs.size := Heap.lt_size he
    have li : it < s.heap.objs.size := by
      obtain ⟨_, q, _⟩ := hit
      exact Heap.lt_size q
    have hlt : i < its.toArray.size := by
      rw [List.size_toArray]
      exact (List.getElem?_eq_some_iff.mp hu).1
    refine wpAny_pyNext_enum_itemD (Draws.tuple (A := X.A.in1) (I.ok.hd hc) it a na its.toArray) he ⟨hit, pl⟩ hlt ne (by simp [ne, Ne.symm nb]) fun y h' tk hy ho hst hT hsz kp => ?_
    have ey : y = u := Option.some.inj (hy.symm.trans (by simpa using hu))
    subst ey
    refine ⟨_, rfl, wpAny_letOwnedTupleGo_enum (s := { s with heap := h', toks := tk + 1 }) ho fun h2 he2 sb => ?_⟩
    have hT2 : h2.get? s.heap.objs.size = some { cls := .type "tuple", data := .seq #[.int i tk, y] } := (sb.2 _ (Nat.ne_of_gt le)).trans hT
    have new : ObjOk X.prog X.w (upd H s.heap.objs.size (.tup [.int (i : Nat), x])) h2 s.heap.objs.size (.tup [.int (i : Nat), x]) := ⟨(by show 2 ≤ sizeLine; decide), [.int i tk, y], .cons ⟨_, rfl⟩ (.cons ru .nil), _, hT2, rfl, _, rfl⟩
    have I2 : Inv X pins σ (upd H s.heap.objs.size (.tup [.int (i : Nat), x])) { s with heap := h2, toks := tk + 1 } :=
      I.turnedNew (ch := [e, it]) (fun b ob hb q => (sb.2 b fun z => hb (by simp [z])).trans (kp b ob (fun z => hb (by simp [z])) (fun z => hb (by simp [z])) q)) hf (Nat.le_refl _) new
    refine ⟨.ref s.heap.objs.size, _, I2, rfl, ⟨_, x, rfl, I.hok.fresh (Nat.le_refl _), rfl, fun ys hy => by rw [I.tuple_inj hy hq]; exact hx⟩, ⟨⟨⟨y, ?_⟩, hst.1.at fun o q => (sb.2 it (Ne.symm ne)).trans q⟩, ne, na, nb⟩, fun b hb => ?_⟩
    · rw [show ((i + 1 : Nat) : Int) = (i : Int) + 1 by omega]
      exact he2
    · have lb : b < s.heap.objs.size := by
        rcases List.mem_cons.mp hb with rfl | hb
        · exact le
        · rw [List.mem_singleton] at hb
          subst hb
          exact li
      rw [upd_ne (Nat.ne_of_lt lb)]
      exact (hf b hb).1
  done := by
    rintro X rfl rfl rfl hc i pins s σ H E I hf ⟨⟨⟨old, he⟩, hit⟩, ne, na, nb⟩ ⟨xs, hq, hx⟩
    obtain ⟨its, rv, pl, hz⟩ := I.tuple hq
    obtain ⟨f0, f1, f2, f3, f4, f5⟩ := hf it (by simp)
    have hl := rv.length
    have en : i = its.toArray.size := by
      rw [List.size_toArray]
      omega
    subst en
    exact wpAny_pyNext_enum_endD (Draws.tuple (A := X.A.in1) (I.ok.hd hc) it a na its.toArray) he ⟨hit, pl⟩ fun h' eb => ⟨rfl, I.turned (t' := s.toks) (fun b o hb q => eb b o hb q) f0 f1 f3 f4 f5⟩
  self := fun A i s Q E st h => let ⟨⟨⟨_, he⟩, _⟩, _⟩ := st; wpAny_pyIter_enum he h
theorem meets_enum1 {v : Value} {o : Obj} {Ha : Heap → Prop} (B : Begins v o Ha) : Meets (Builtin.«enumerate.__new__» ⟨[.type "enumerate", v], []⟩)
    (fun _ R s => Ha s.heap ∧ R (.ok (.ret (.ref (s.heap.push o).objs.size))) { s with heap := (s.heap.push o).push { cls := .type "enumerate", data := .fields #[.none, .bool false, .ref s.heap.objs.size, rawInt 0, .none, .none] } }) := by
  refine .of_wp fun prog w A R s h => ?_
  obtain ⟨hp, g, d, tk, os⟩ := s
  obtain ⟨h1, h⟩ := h
  have isE := sub_enumerate
  have go : ∀ {A' : Around} {E : Value → Shared → Prop} {Q : Value → Shared → Prop}, Q (.ref hp.objs.size) ⟨hp.push o, g, d, tk, os⟩ → wpAny (model prog w) A' (pyIter v) Q E ⟨hp, g, d, tk, os⟩ := fun q => B.iter prog w _ _ ⟨hp, g, d, tk, os⟩ _ h1 q
  wp_walk using go
  refine wpAny_stack_any fun st => wpAny_pure ?_
  split
  · rename_i c _ _ _ _ _
    cases (c == Value.type "enumerate") <;> (wp_walk using go; exact ⟨_, rfl, h⟩)
  · wp_walk using go
    exact ⟨_, rfl, h⟩
theorem call_enum1 {prog : Program} {w : World} {A : Around} {E : Value → Shared → Prop} {s : Shared} {v : Value} {o : Obj} {Ha : Heap → Prop} {Q : Value → Shared → Prop} (B : Begins v o Ha) (h1 : Ha s.heap)
    (h : ∀ h', IsEnum h' (s.heap.objs.size + 1) s.heap.objs.size 0 .none → h'.get? s.heap.objs.size = some o → (∀ b u, s.heap.get? b = some u → h'.get? b = some u) → Q (.ref (s.heap.objs.size + 1)) { s with heap := h' }) :
    wpAny (model prog w) A (call (.type "enumerate") [v]) Q E s := by
  refine callType_new F.called_enumerate (by decide) (F.typeCall_enumerate_1 _) (F.newCall_enumerate_1 _) (fun obj => F.args_object_init_2 obj _) F.entry_enumerate_new (meets_enum1 B) ⟨h1, ?_⟩
  have size1 : (s.heap.push o).objs.size = s.heap.objs.size + 1 := Heap.size_push ..
  have made := Heap.get?_push_size (s.heap.push o) (o := { cls := .type "enumerate", data := .fields #[.none, .bool false, .ref s.heap.objs.size, rawInt 0, .none, .none] }) rfl
  rw [size1] at made
  show _ ∧ _
  rw [size1]
  exact ⟨⟨_, made, rfl⟩, h _ made (Heap.get?_push_of_some _ (Heap.get?_push_size _ B.free)) fun b u x => Heap.get?_push_of_some _ (Heap.get?_push_of_some _ x)⟩
def iEnumT (K : PySem.W.Frag) (ta : TA) : TI := fun σ H R => ta σ H fun vs H1 => ∃ a xs, vs = [.ref a] ∧ SqT K H1 a xs ∧ R (IteT K a) H1
theorem wi_enumT (K : PySem.W.Frag) {X : Cx} (T : Tx X.mg) {e : Expr} {te : TE} {p pos tpos : Pos} {elts : List Expr} {kk : Nat} (he : PE X e te) (hK : X.K = K := by rfl) (hg : Gl X "enumerate" := by rfl) (hs : starEach [e] X.env = (false, eval e X.env) :: starEach [] X.env := by rfl) :
    PI X (.Tuple elts kk tpos) (.Call (.Name "enumerate" p) [e] [] pos) (iEnumT K (tCons te tNil)) := by
  subst hK
  refine ⟨fun pins s σ H R I h => ?_⟩
  refine Call_ (ld_blt I hg T.enumerate_ boot_enumerate (PyProof.Rows.callWith_type1 (thn ((pa_cons he pa_nil hs).run pos pins s σ H _ I h) fun us s1 hh => ?_) hs rfl))
  obtain ⟨vs, H1, I1, r1, a, xs, rfl, hq, q⟩ := hh
  obtain ⟨its, rv, pl, hz⟩ := I1.tuple hq
  rw [Vals.ref1 r1]
  have la : a < s1.heap.objs.size := pl.lt
  refine call_enum1 (begins_tuple a its.toArray) pl fun h' hE hO kp => wpAny_pyIter_enum hE ?_
  have I2 : Inv X pins σ H1 { s1 with heap := h' } := I1.kept (t' := s1.toks) kp
  refine ⟨s1.heap.objs.size + 1, [s1.heap.objs.size + 1, s1.heap.objs.size], _, _, H1, rfl, I2, turn_enumT a (s1.heap.objs.size + 1) s1.heap.objs.size, ⟨⟨⟨.none, hE⟩, ⟨_, hO, rfl, rfl⟩⟩, Nat.succ_ne_self _, Nat.ne_of_lt la, Nat.ne_of_lt (Nat.lt_succ_of_lt la)⟩, fun b hb => ?_, q⟩
  have le : s1.heap.objs.size ≤ b := by
    rcases List.mem_cons.mp hb with rfl | hb
    · exact Nat.le_succ _
    · rw [List.mem_singleton] at hb
      exact Nat.le_of_eq hb.symm
  exact I1.fpOk le (I1.hok.fresh le)
theorem ei_enumT {K : PySem.W.Frag} {M : Mh} {σ : L2.St} {G : Hp} {te : TE} {ds : List PyData} (h : Ev K M te σ G (.tuple ds)) : EvI K M (iEnumT K (tCons te tNil)) σ G ((List.range ds.length).map fun i => .tuple [nD i, ds.getD i .none]) Any := fun G1 s dj R r => h G1 s dj _ fun v G2 s2 dj2 hv => by
  obtain ⟨a, xs, rfl, h1, h2⟩ := dp_tup hv
  have hl : ((List.range ds.length).map fun i => PyData.tuple [nD i, ds.getD i .none]).length = xs.length := by rw [List.length_map, List.length_range, h2.len]
  refine ⟨a, xs, rfl, sq_jnT dj2 h1, r _ G2 s2 dj2 ⟨fun i G3 M3 hi s3 dj3 _ => ?_, fun G3 M3 s3 dj3 _ => ?_, fun i G3 M3 x H' hi s3 dj3 _ y => ?_⟩⟩
  · rw [hl] at hi
    exact ⟨xs, xs[i], sq_jnT dj3 (seqT s3 h1), List.getElem?_eq_getElem hi⟩
  · rw [hl]
    exact ⟨xs, sq_jnT dj3 (seqT s3 h1), rfl⟩
  · obtain ⟨Tn, z, rfl, hn, rfl, hz⟩ := y
    have hz := hz xs (sq_jnT dj3 (seqT s3 h1))
    have n := jn_none hn
    obtain ⟨d, e1, e2⟩ := h2.get' hz
    have hi2 : i < ds.length := (List.getElem?_eq_some_iff.mp e1).1
    refine ⟨upd G3 Tn (.tup [.int (i : Nat), z]), _, jn_new hn, same_new n.2, dj_new dj3 hn, by rw [List.getElem?_map, List.getElem?_range hi2]; rfl, ?_⟩
    show Dp K _ _ (.tuple [nD i, ds.getD i .none])
    rw [List.getD_eq_getElem?_getD, e1]
    exact .tup (.of upd_same) (.cons (.int _) (.cons (e2.mono (s3.trans (same_new n.2))) .nil))
end Lw
/-! text D3 -/
set_option Elab.async false
set_option linter.all false
set_option maxRecDepth 100000
set_option maxHeartbeats 2000000
namespace Lw
open PySem PySem.Spec PyProof.Rows L2
section
variable {P : Program} {w : World} {K : PySem.W.Frag} {mg : Str → Option Value} {base : Heap}
theorem web_guest {gs : Gs} {k : Nat} (h : k < gs.length) : atI (gs.map gD) ((k : Nat) : Int) = some (gD (gs.getD k (0, 0))) := by
  refine atI_nat (map_at ?_)
  rw [List.getD_eq_getElem?_getD, List.getElem?_eq_getElem h]
  rfl
theorem nat_map (p : List Nat) : p.map nD = (p.map fun k => ((k : Nat) : Int)).map PyData.int := by
  rw [List.map_map]
  rfl
theorem cast_nodup {p : List Nat} (h : p.Nodup) : (p.map fun k => ((k : Nat) : Int)).Nodup := by
  unfold List.Nodup
  rw [List.pairwise_map]
  exact List.Pairwise.imp (fun h q => h (Int.ofNat.inj q)) h
/-- len(set(t)) of unlike numbers -/
theorem ev_lenSetT {M : Mh} {σ : L2.St} {G : Hp} {ta : TE} {p : List Nat} (h : Ev K M ta σ G (rD p)) (nd : p.Nodup) (hl : p.length ≤ 1000) : Ev K M (tLenSetT K ta) σ G (nD p.length) := fun G1 s dj Q q => h G1 s dj _ fun v G2 s2 dj2 hv => by
  obtain ⟨a, xs, rfl, h1, h2⟩ := dp_tup hv
  rw [nat_map] at h2
  rw [h2.ints] at h1
  refine ⟨a, _, rfl, sq_jnT dj2 h1, cast_nodup nd, by rw [List.length_map]; exact hl, ?_⟩
  rw [List.length_map]
  exact q _ G2 s2 dj2 (.int _)
/-! ### is_row_in(web, thing) -/
def R_is_row_in : List PyData → PyData → Prop := fun ds d => ∃ (n : Nat) (gs : Gs) (p : List Nat), ds = [webD n gs, rD p] ∧ p.Nodup ∧ (∀ k ∈ p, k < gs.length) ∧ p.length ≤ 1000 ∧ d = .bool true
theorem sc_is_row_in : FnScope ["web", "thing", "own"] ["web", "thing"] (defScope s_is_row_in) := ⟨rfl, rfl, rfl, by decide +kernel, rfl, by decide +kernel, by decide +kernel⟩
theorem c_is_row_in (T : Tx mg) (D : Dn K mg "is_row_in" s_is_row_in ["web", "thing"]) (k_is_within : Cal P w K mg base 2 "is_within" (Pr K R_is_within)) : Cal P w K mg base 3 "is_row_in" (Pr K R_is_row_in) := by
  refine D.pr sc_is_row_in (fun ds d h => by obtain ⟨n, g, p, rfl, _⟩ := h; rfl) (fun f cdv A outer s H E vs ds d hr h hv => ?_)
  obtain ⟨n, gs, p, rfl, nd, hlt, hl, rfl⟩ := h
  obtain ⟨v0, v1, rfl, h0, h1⟩ := dp2 hv
  refine ⟨_, (pss_cons (ps_if (PW.pt (pw_or (pt_not (pt_val (pe_isi K T (pv 1) (ty_tuple T)))) (pw_or1 (pt_not (pt_val (pe_all K T rfl (lcA 2 sc_is_row_in.nd (wi_tup K (pv 1)) (fun _ _ _ _ _ => (pe_ca k_is_within hr (by decide) rfl (pa_cons (pv 2) (pa_cons pe_int (pa_cons (pe_op op_sub (pe_len K T (xT K (pv 0) pe_int)) pe_int) pa_nil))))))))))))
      (pss_one (ps_ret pe_bl))
      pss_nil)
    (pss_one (ps_ret (pe_cmpR op_eq (pe_lenSetT K T (pv 1)) (pe_len K T (pv 1)) (nomark _))))), fun Q q => ?_⟩
  refine s_ifF (eb_or (eb_not (eb_B (ev_isi (ev_var rfl h1).toJ kit_tuple_tuple))) fun _ => eb_not (eb_B (ev_all (bs := p.map fun _ => true) ?ha))) (dj_nil _) (by simp) fun G2 s2 dj2 => ?_
  case ha =>
    rw [List.map_map]
    exact (evm_lcA p nD (fun _ => .bool true) (ei_tup (ev_var rfl h1)) (by omega) fun a ha D acc hD G1 x s dj hx => ⟨rfl, ev_call (ea_cons (ev_var rfl hx) (ea_two ev_int (ev_I0 (ev_lenT (ev_ixT (d := .tuple (gs.map gD)) (ev_var rfl (h0.mono s)) ev_int rfl)) ev_int (fun _ => .int _)))) ⟨_, _, _, rfl, by omega, by
      have := hlt a ha
      rw [List.length_map]
      omega, rfl⟩⟩).toE.toS
  exact fin q s2 (ev_eqI (ev_lenSetT (ev_var rfl (h1.mono s2)) nd hl) (ev_lenT (ev_var rfl (h1.mono s2)))) (by simp)
/-! ### is_order_in(web, thing) -/
def R_is_order_in : List PyData → PyData → Prop := fun ds d => ∃ (n : Nat) (gs : Gs) (p : List Nat), ds = [webD n gs, rD p] ∧ PermOf gs.length p ∧ gs.length ≤ 1000 ∧ d = .bool true
theorem sc_is_order_in : FnScope ["web", "thing"] ["web", "thing"] (defScope s_is_order_in) := ⟨rfl, rfl, rfl, by decide +kernel, rfl, by decide +kernel, by decide +kernel⟩
theorem c_is_order_in (T : Tx mg) (D : Dn K mg "is_order_in" s_is_order_in ["web", "thing"]) (cR : Cal P w K mg base 3 "is_row_in" (Pr K R_is_row_in)) : Cal P w K mg base 4 "is_order_in" (Pr K R_is_order_in) := by
  refine D.pr sc_is_order_in (fun ds d h => by obtain ⟨n, g, p, rfl, _⟩ := h; rfl) (fun f cdv A outer s H E vs ds d hr h hv => ?_)
  obtain ⟨n, gs, p, rfl, hp, hl, rfl⟩ := h
  obtain ⟨v0, v1, rfl, h0, h1⟩ := dp2 hv
  refine ⟨_, pss_one (ps_ret (pe_and (pe_ca cR hr (by decide) rfl (pa_cons (pv 0) (pa_cons (pv 1) pa_nil))) (pe_one (pe_cmpR op_eq (pe_len K T (pv 1)) (pe_len K T (xT K (pv 0) pe_int)) (nomark _))))), fun Q q => ?_⟩
  exact fin q (Same.refl _) (ev_and (ev_call (ea_two (ev_var rfl h0) (ev_var rfl h1)) ⟨n, gs, p, rfl, hp.1, fun k hk => (hp.2 k).mp hk, by rw [hp.length]; exact hl, rfl⟩) fun _ => ev_eqI (ev_lenT (ev_var rfl h1)) (ev_lenT (ev_ixT (d := .tuple (gs.map gD)) (ev_var rfl h0) ev_int rfl))) (by simp [hp.length])
/-! ### sure_order(web, order) -/
def R_sure_order : List PyData → PyData → Prop := fun ds d => ∃ (n : Nat) (gs : Gs) (x : PyData) (p : List Nat), ds = [webD n gs, x] ∧ As 1 x (rD p) ∧ PermOf gs.length p ∧ gs.length ≤ 1000 ∧ d = rD p
theorem sc_sure_order : FnScope ["web", "order", "own"] ["web", "order"] (defScope s_sure_order) := ⟨rfl, rfl, rfl, by decide +kernel, rfl, by decide +kernel, by decide +kernel⟩
theorem c_sure_order (D : Dn K mg "sure_order" s_sure_order ["web", "order"]) (cT : Cal P w K mg base 2 "tupled" (Pr K (R_tupled 1))) (cO : Cal P w K mg base 4 "is_order_in" (Pr K R_is_order_in)) : Cal P w K mg base 5 "sure_order" (Pr K R_sure_order) := by
  refine D.pr sc_sure_order (fun ds d h => by obtain ⟨n, g, x, p, rfl, _⟩ := h; rfl) (fun f cdv A outer s H E vs ds d hr h hv => ?_)
  obtain ⟨n, gs, x, p, rfl, ⟨hx1, hx2⟩, hp, hl, rfl⟩ := h
  obtain ⟨v0, v1, rfl, h0, h1⟩ := dp2 hv
  refine ⟨_, pss_cons (ps_set (i := 2) sc_sure_order.nd rfl (Or.inl rfl) (pe_ca cT hr (by decide) rfl (pa_cons (pv 1) pa_nil)))
    (pss_cons (ps_if (pt_not (pt_val (pe_ca cO hr (by decide) rfl (pa_cons (pv 0) (pa_cons (pv 2) pa_nil))))) (pss_one ps_never) pss_nil) (pss_one (ps_ret (pv 2)))), fun Q q => ?_⟩
  refine s_set (ev_call (ea_one (ev_var rfl h1)) ⟨x, rfl, hx1, rfl⟩) (dj_nil _) fun v2 G1 s1 dj1 h2 => ?_
  rw [hx2] at h2
  exact s_ifF (eb_not (eb_B (ev_call (ea_two (ev_var rfl (h0.mono s1)) (ev_var rfl h2)) ⟨n, gs, p, rfl, hp, hl, rfl⟩))) dj1 rfl fun G2 s2 dj2 => fin q (s1.trans s2) (ev_var rfl (h2.mono s2))
/-! ### seat_in(web, taken, guest): taken a dict -/
/-- the places that are keys of the dict -/
def Keys (kt : List (Key × V)) (tk : List (Option Nat)) : Prop := ∀ pl : Nat, (valV kt (Sum.inl ((pl : Nat) : Int) : Key)).isSome = decide (some pl ∈ tk)
def spSeat (K : PySem.W.Frag) : Sp := fun vs H Q _ => ∃ (v0 : V) (t : Addr) (n : Nat) (gs : Gs) (k : Nat) (kt : List (Key × V)) (tk : List (Option Nat)), vs = [v0, .ref t, .int (k : Nat)] ∧ Dp K H v0 (webD n gs) ∧ k < gs.length ∧ H t = some (.dK kt) ∧ Keys kt tk ∧ ∀ H', Same H H' → Q (oV (seat gs tk k)) H'
theorem sc_seat_in : FnScope ["web", "taken", "guest", "near", "far"] ["web", "taken", "guest"] (defScope s_seat_in) := ⟨rfl, rfl, rfl, by decide +kernel, rfl, by decide +kernel, by decide +kernel⟩
theorem c_seat_in (D : Dn K mg "seat_in" s_seat_in ["web", "taken", "guest"]) : Cal P w K mg base 1 "seat_in" (spSeat K) := by
  refine D.cal sc_seat_in (fun vs H Q E h => by obtain ⟨_, _, _, _, _, _, _, rfl, _⟩ := h; rfl) (fun f cdv A outer s H vs Q E hr h => ?_)
  obtain ⟨v0, t, n, gs, k, kt, tk, rfl, h0, hk, ht, hkt, q⟩ := h
  refine ⟨_, pss_cons (ps_asg (xT K (xT K (pv 0) pe_int) (pv 2)) (pg2 K rfl (pgs_cons (pg_name (i := 3) sc_seat_in.nd rfl (Or.inl rfl)) (pgs_cons (pg_name (i := 4) sc_seat_in.nd rfl (Or.inl rfl)) pgs_nil))))
    (pss_cons (ps_if (pt_cmp (pc_dnotin (hu_of hr) (pv 3) (pv 1)) rfl) (pss_one (ps_ret (pv 3))) pss_nil) (pss_one (ps_ret (pe_ifExp (pt_cmp (pc_din (hu_of hr) (pv 4) (pv 1)) rfl) pe_non (pv 4))))), ?_⟩
  have e := ev_ixT (K := K) (M := []) (σ := start ["web", "taken", "guest", "near", "far"] [v0, .ref t, .int (k : Nat)]) (ta := tOp (rIxT K) (tVar 0) (tC (.int 1))) (tb := tVar 2) (G := H) (ev_ixT (d := .tuple (gs.map gD)) (ev_var rfl h0) ev_int rfl) (ev_var rfl (.int _)) (web_guest hk)
  refine e H (Same.refl _) (dj_nil _) _ fun v G2 s2 dj2 hv => g_two (M := []) dj2 hv fun v1 v2 hv1 hv2 => ?_
  cases hv1
  cases hv2
  have ht2 := s2 _ _ ht
  have d1 := hkt (gs.getD k (0, 0)).1
  have d2 := hkt (gs.getD k (0, 0)).2
  refine ⟨_, rfl, _, rfl, t, _, rfl, DGet.k (k := Sum.inl _) ht2, _, rfl, ?_⟩
  unfold seat at q
  by_cases m1 : some (gs.getD k (0, 0)).1 ∈ tk
  · rw [decide_eq_true m1] at d1
    rw [if_pos m1] at q
    rw [d1]
    refine iteF ⟨_, rfl, _, rfl, t, _, rfl, DGet.k (k := Sum.inl _) ht2, _, rfl, ?_⟩
    by_cases m2 : some (gs.getD k (0, 0)).2 ∈ tk
    · rw [decide_eq_true m2] at d2
      rw [if_pos m2] at q
      rw [d2]
      exact iteT (q G2 s2)
    · rw [decide_eq_false m2] at d2
      rw [if_neg m2] at q
      rw [d2]
      exact iteF ⟨_, rfl, q G2 s2⟩
  · rw [decide_eq_false m1] at d1
    rw [if_neg m1] at q
    rw [d1]
    exact iteT ⟨_, rfl, q G2 s2⟩
end
end Lw
/-! text D4 -/
set_option Elab.async false
set_option linter.all false
set_option maxRecDepth 100000
set_option maxHeartbeats 2000000
namespace Lw
open PySem PySem.Spec PyProof.Rows L2
section
variable {P : Program} {w : World} {K : PySem.W.Frag} {mg : Str → Option Value} {base : Heap}
abbrev iK (n : Nat) : Key := Sum.inl ((n : Nat) : Int)
theorem iK_inj {a b : Nat} : iK a = iK b ↔ a = b := ⟨fun h => Int.ofNat.inj (Sum.inl.inj h), fun h => by rw [h]⟩
/-! ### seats_in(web, row) -/
/-- the seats of those of p, as they came -/
def Found (gs : Gs) (p : List Nat) (kf : List (Key × V)) : Prop := ∀ a g b, p = a ++ g :: b → valV kf (iK g) = some (oV (seat gs (taken gs a) g))
theorem Found.more {gs : Gs} {p : List Nat} {kf : List (Key × V)} (h : Found gs p kf) {k : Nat} (hk : k ∉ p) : Found gs (p ++ [k]) (putK kf (iK k) (oV (seat gs (taken gs p) k))) := by
  intro a g b e
  rw [valV_put]
  by_cases hg : g = k
  · subst hg
    rw [if_pos rfl]
    have : a = p := by
      rcases List.eq_nil_or_concat b with hb | ⟨b', z, hb⟩
      · subst hb
        exact (List.append_inj' e rfl).1.symm
      · rw [hb] at e
        have e2 : p ++ [g] = (a ++ g :: b') ++ [z] := by rw [e]; simp
        have := (List.append_inj' e2 rfl).1
        exact absurd (by rw [this]; simp) hk
    rw [this]
  · rw [if_neg (fun q => hg (iK_inj.mp q))]
    rcases List.eq_nil_or_concat b with hb | ⟨b', z, hb⟩
    · subst hb
      have := (List.append_inj' e rfl).2
      exact absurd (List.cons.inj this).1.symm hg
    · rw [hb] at e
      have e2 : p ++ [k] = (a ++ g :: b') ++ [z] := by rw [e]; simp
      exact h a g b' (List.append_inj' e2 rfl).1
theorem Keys.none {kt : List (Key × V)} {tk : List (Option Nat)} (h : Keys kt tk) : Keys kt (tk ++ [Option.none]) := fun pl => by
  rw [h pl]
  exact decide_eq_decide.mpr (by simp)
theorem Keys.some {kt : List (Key × V)} {tk : List (Option Nat)} (h : Keys kt tk) (x : Nat) (v : V) : Keys (putK kt (iK x) v) (tk ++ [Option.some x]) := fun pl => by
  rw [valV_put]
  by_cases e : pl = x
  · subst e
    rw [if_pos rfl]
    simp
  · rw [if_neg (fun q => e (iK_inj.mp q)), h pl]
    exact decide_eq_decide.mpr (by simp [e])
theorem take_more {α : Type} {l : List α} {i : Nat} {x : α} (h : l[i]? = some x) : l.take (i + 1) = l.take i ++ [x] := by
  rw [List.take_succ, h]
  rfl
theorem not_in_take {p : List Nat} (nd : p.Nodup) {i k : Nat} (h : p[i]? = some k) : k ∉ p.take i := by
  intro hm
  obtain ⟨j, hj, e⟩ := List.mem_iff_getElem.mp hm
  rw [List.length_take] at hj
  obtain ⟨hi, e2⟩ := List.getElem?_eq_some_iff.mp h
  rw [List.getElem_take] at e
  have := (List.getElem_inj nd).mp (e.trans e2.symm)
  omega
def spSeats (K : PySem.W.Frag) : Sp := fun vs H Q _ => ∃ (v0 v1 : V) (n : Nat) (gs : Gs) (p : List Nat), vs = [v0, v1] ∧ Dp K H v0 (webD n gs) ∧ Dp K H v1 (rD p) ∧ p.Nodup ∧ (∀ k ∈ p, k < gs.length) ∧ p.length ≤ 1000 ∧
  ∀ H' f kf, Same H H' → H' f = some (.dK kf) → Found gs p kf → Q (.ref f) H'
theorem sc_seats_in : FnScope ["web", "row", "taken", "found", "guest", "place"] ["web", "row"] (defScope s_seats_in) := ⟨rfl, rfl, rfl, by decide +kernel, rfl, by decide +kernel, by decide +kernel⟩
theorem c_seats_in (D : Dn K mg "seats_in" s_seats_in ["web", "row"]) (k_seat_in : Cal P w K mg base 1 "seat_in" (spSeat K)) : Cal P w K mg base 2 "seats_in" (spSeats K) := by
  refine D.cal sc_seats_in (fun vs H Q E h => by obtain ⟨_, _, _, _, _, rfl, _⟩ := h; rfl) (fun f cdv A outer s H vs Q E hr h => ?_)
  obtain ⟨v0, v1, n, gs, p, rfl, h0, h1, nd, hlt, hl, q⟩ := h
  refine ⟨_, (pss_cons (ps_par (i := 2) (j := 3) rfl sc_seats_in.nd rfl rfl (by decide) rfl rfl (pa_cons pe_dnewK (pa_cons pe_dnewK pa_nil)) rfl)
    (pss_cons (ps_for PassesOwn.never rfl (wi_tup K (pv 1)) (pg_name (i := 4) sc_seats_in.nd rfl (Or.inl rfl))
      (pss_cons (ps_set (i := 5) sc_seats_in.nd rfl (Or.inl rfl) (pe_ca k_seat_in hr (by decide) rfl (pa_cons (pv 0) (pa_cons (pv 2) (pa_cons (pv 4) pa_nil)))))
      (pss_cons (ps_dput (hu_of hr) (pv 3) (pv 4) (pv 5) rfl)
      (pss_one (ps_if (pt_cmpR op_notN (pv 5) pe_non (nomark _))
        (pss_one (ps_dput (hu_of hr) (pv 2) (pv 5) pe_bl rfl))
        pss_nil)))))
    (pss_one (ps_ret (pv 3))))), ?_⟩
  intro t ht fa hf
  refine ⟨_, _, rfl, ?_⟩
  obtain ⟨a, xs, rfl, k1, k2⟩ := dp_tup h1
  have ex : xs = p.map fun k => V.int ((k : Nat) : Int) := by
    rw [nat_map] at k2
    rw [k2.ints, List.map_map]
    rfl
  have hft : fa ≠ t := fun e => by rw [e, upd_same] at hf; cases hf
  have hf0 : H fa = none := by rw [upd_ne hft] at hf; exact hf
  have s0 : Same H (upd (upd H t (.dK [])) fa (.dK [])) := (same_new ht).trans (same_new hf)
  refine ⟨.ref a, rfl, a, rfl, ⟨xs, seqT s0 k1⟩, for_it (walk_tup (K := K) (a := a) (xs := xs)) (fun i σ H1 => Same H H1 ∧ ∃ kt kf x y, σ = [some v0, some (.ref a), some (.ref t), some (.ref fa), x, y] ∧ H1 t = some (.dK kt) ∧ H1 fa = some (.dK kf) ∧ kt.length ≤ i ∧ kf.length ≤ i ∧ Keys kt (taken gs (p.take i)) ∧ Found gs (p.take i) kf)
    ⟨s0, [], [], none, none, rfl, by rw [upd_ne (Ne.symm hft), upd_same], upd_same, Nat.le_refl _, Nat.le_refl _, fun pl => rfl, fun a g b e => by simp at e⟩ (fun i σ H1 _ h => seqT h.1 k1) ?_ ?_⟩
  · rintro i x σ H1 H' hi ⟨sH, kt, kf, x4, x5, rfl, ht1, hf1, lt, lf, hk, hF⟩ ⟨rfl, hx⟩
    rw [ex, List.getElem?_map] at hx
    obtain ⟨k, hk2, rfl⟩ : ∃ k, p[i]? = some k ∧ V.int ((k : Nat) : Int) = x := by
      cases e : p[i]? with
      | none => rw [e] at hx; cases hx
      | some k => rw [e] at hx; exact ⟨k, rfl, Option.some.inj hx⟩
    have hkm : k < gs.length := hlt k (List.mem_of_getElem? hk2)
    have hni := not_in_take nd hk2
    have hi2 : i < p.length := (List.getElem?_eq_some_iff.mp hk2).1
    refine ⟨_, rfl, _, rfl, _, rfl, H', [], rfl, dj_nil _, v0, t, n, gs, k, kt, _, rfl, h0.mono sH, hkm, ht1, hk, fun H2 s2 _ => ?_⟩
    have ht2 := s2 _ _ ht1
    have hf2 := s2 _ _ hf1
    have tk : taken gs (p.take (i + 1)) = taken gs (p.take i) ++ [seat gs (taken gs (p.take i)) k] := by rw [take_more hk2, taken_snoc]
    have small : ∀ z : Nat, z ≤ i → z < sizeLine := fun z hz => Nat.lt_of_le_of_lt (Nat.le_trans hz (by omega : i ≤ 1000)) (by decide)
    have F2 := hF.more hni
    refine ⟨_, rfl, _, rfl, _, rfl, fa, _, rfl, DPut.k (k := iK k) hf2 (small _ lf), ?_⟩
    have sH2 : Same H (upd H2 fa (.dK (putK kf (iK k) (oV (seat gs (taken gs (p.take i)) k))))) := fun b o e => by
      rw [upd_ne (ne_of_none e hf0)]
      exact s2 _ _ (sH _ _ e)
    have ht3 : upd H2 fa (.dK (putK kf (iK k) (oV (seat gs (taken gs (p.take i)) k)))) t = some (.dK kt) := by
      rw [upd_ne (Ne.symm hft)]
      exact ht2
    have lf' : (putK kf (iK k) (oV (seat gs (taken gs (p.take i)) k))).length ≤ i + 1 := by
      have := length_putK kf (iK k) (oV (seat gs (taken gs (p.take i)) k))
      omega
    refine ⟨_, rfl, rfl, _, rfl, ?_⟩
    cases es : seat gs (taken gs (p.take i)) k with
    | none =>
      rw [es] at tk sH2 ht3 lf' F2
      refine iteF ⟨sH2, kt, _, _, _, rfl, ht3, upd_same, by omega, lf', ?_, ?_⟩
      · rw [tk]
        exact hk.none
      · rw [take_more hk2]
        exact F2
    | some pl =>
      rw [es] at tk sH2 ht3 lf' F2
      refine iteT ⟨_, rfl, _, rfl, t, _, rfl, DPut.k (k := iK pl) ht3 (small _ lt), ⟨fun b o e => ?_, putK kt (iK pl) (.bl true), _, _, _, rfl, upd_same, (by rw [upd_ne hft]; exact upd_same), ?_, lf', ?_, ?_⟩⟩
      · rw [upd_ne (ne_of_none e ht)]
        exact sH2 _ _ e
      · have := length_putK kt (iK pl) (.bl true)
        omega
      · rw [tk]
        exact hk.some pl _
      · rw [take_more hk2]
        exact F2
  · rintro σ H1 ⟨sH, kt, kf, x4, x5, rfl, ht1, hf1, lt, lf, hk, hF⟩
    have e : p.take xs.length = p := by
      rw [ex, List.length_map, List.take_length]
    rw [e] at hF
    exact ⟨_, rfl, q H1 fa kf sH hf1 hF⟩
end
end Lw
/-! text K6 -/
set_option Elab.async false
set_option linter.all false
set_option maxRecDepth 100000
set_option maxHeartbeats 2000000
namespace Lw
open PySem PySem.Spec PyProof.Rows L2
/-! ### dicts that stand still -/
section
variable {K : PySem.W.Frag} {M : Mh} {σ : L2.St} {G : Hp} {ta tb te ty : TE} {d : PyData} {i : Nat} {f : Addr} {kf : List (Key × V)} {k : Int}
theorem ev_dget1 (h : σ[i]? = some (some (.ref f))) (hf : G f = some (.dK kf)) (hb : Ev K M ty σ G (.int k)) (ho : Dp K G ((valV kf (Sum.inl k : Key)).getD .non) d) : Ev K M (tDGet1 (tVar i) ty) σ G d := fun G1 s dj Q q =>
  ⟨.ref f, h, f, rfl, .inl ⟨kf, .of (jn_at dj (s _ _ hf))⟩, hb G1 s dj _ fun y G2 s2 dj2 hy => by
    cases hy
    exact ⟨_, DGet.k (k := Sum.inl k) (jn_at dj2 (s2 _ _ (s _ _ hf))), q _ G2 s2 dj2 (ho.mono (s.trans s2))⟩⟩
theorem ev_dgetK {v : V} (h : σ[i]? = some (some (.ref f))) (hf : G f = some (.dK kf)) (hb : Ev K M ty σ G (.int k)) (hv : valV kf (Sum.inl k : Key) = some v) (ho : Dp K G v d) : Ev K M (tDGet (tVar i) ty) σ G d := fun G1 s dj Q q =>
  ⟨.ref f, h, hb G1 s dj _ fun y G2 s2 dj2 hy => by
    cases hy
    refine ⟨f, v, rfl, ?_, q _ G2 s2 dj2 (ho.mono (s.trans s2))⟩
    rw [← hv]
    exact DGet.k (k := Sum.inl k) (jn_at dj2 (s2 _ _ (s _ _ hf)))⟩
theorem ev_din (h : σ[i]? = some (some (.ref f))) (hf : G f = some (.dK kf)) (hb : Ev K M ty σ G (.int k)) : Ev K M (tDIn ty (tVar i)) σ G (.bool (valV kf (Sum.inl k : Key)).isSome) := fun G1 s dj Q q =>
  hb G1 s dj _ fun y G2 s2 dj2 hy => by
    cases hy
    exact ⟨.ref f, h, f, _, rfl, DGet.k (k := Sum.inl k) (jn_at dj2 (s2 _ _ (s _ _ hf))), q _ G2 s2 dj2 (.bl _)⟩
theorem ev_dnotin (h : σ[i]? = some (some (.ref f))) (hf : G f = some (.dK kf)) (hb : Ev K M ty σ G (.int k)) : Ev K M (tDNotIn ty (tVar i)) σ G (.bool (!(valV kf (Sum.inl k : Key)).isSome)) := fun G1 s dj Q q =>
  hb G1 s dj _ fun y G2 s2 dj2 hy => by
    cases hy
    exact ⟨.ref f, h, f, _, rfl, DGet.k (k := Sum.inl k) (jn_at dj2 (s2 _ _ (s _ _ hf))), q _ G2 s2 dj2 (.bl _)⟩
end
end Lw
/-! text D5 -/
set_option Elab.async false
set_option linter.all false
set_option maxRecDepth 100000
set_option maxHeartbeats 2000000
namespace Lw
open PySem PySem.Spec PyProof.Rows L2
section
variable {P : Program} {w : World} {K : PySem.W.Frag} {mg : Str → Option Value} {base : Heap}
theorem rgD_map (n : Nat) : rgD n = (List.range n).map nD := rfl
/-- for .. in range(n) -/
theorem ei_rngD {M : Mh} {σ : L2.St} {G : Hp} {te : TE} {n : Nat} (h : Ev K M te σ G (nD n)) (hn : n ≤ 100000) : EvI K M (iRng1 (tCons te tNil)) σ G ((List.range n).map nD) Any := ei_rng h hn
/-! ### seated_in(web, row) -/
def R_seated_in : List PyData → PyData → Prop := fun ds d => ∃ (n : Nat) (gs : Gs) (p : List Nat), ds = [webD n gs, rD p] ∧ PermOf gs.length p ∧ gs.length ≤ 1000 ∧ d = tD (outc gs p)
theorem sc_seated_in : FnScope ["web", "row", "found", "guest"] ["web", "row"] (defScope s_seated_in) := ⟨rfl, rfl, rfl, by decide +kernel, rfl, by decide +kernel, by decide +kernel⟩
theorem map_range {α : Type} {l : List α} {f : Nat → α} (h : ∀ i x, l[i]? = some x → f i = x) : (List.range l.length).map f = l := by
  refine List.ext_getElem? fun i => ?_
  rw [List.getElem?_map]
  by_cases hi : i < l.length
  · rw [List.getElem?_range hi, List.getElem?_eq_getElem hi]
    exact congrArg some (h i _ (List.getElem?_eq_getElem hi))
  · rw [List.getElem?_eq_none (by rw [List.length_range]; omega), List.getElem?_eq_none (by omega)]
    rfl
theorem c_seated_in (T : Tx mg) (D : Dn K mg "seated_in" s_seated_in ["web", "row"]) (k_seats_in : Cal P w K mg base 2 "seats_in" (spSeats K)) : Cal P w K mg base 3 "seated_in" (Pr K R_seated_in) := by
  refine D.pr sc_seated_in (fun ds d h => by obtain ⟨n, g, p, rfl, _⟩ := h; rfl) (fun f cdv A outer s H E vs ds d hr h hv => ?_)
  obtain ⟨n, gs, p, rfl, hp, hl, rfl⟩ := h
  obtain ⟨v0, v1, rfl, h0, h1⟩ := dp2 hv
  refine ⟨_, (pss_cons (ps_set (i := 2) sc_seated_in.nd rfl (Or.inr rfl) (pe_ca k_seats_in hr (by decide) rfl (pa_cons (pv 0) (pa_cons (pv 1) pa_nil))))
    (pss_one (ps_ret (pe_tupOf K T (lcA 3 sc_seated_in.nd (pi_range1 (by rfl) T.range_ (pa_cons (pe_len K T (xT K (pv 0) pe_int)) pa_nil)) (fun _ _ _ _ _ => (pe_dget1 (hu_of hr) (pv 2) (pv 3) ⟨by rfl, by rfl, by rfl, by rfl⟩))))))), fun Q q => ?_⟩
  refine ⟨_, rfl, _, rfl, H, [], rfl, dj_nil _, v0, v1, n, gs, p, rfl, h0, h1, hp.1, fun k hk => (hp.2 k).mp hk, by rw [hp.length]; exact hl, fun H1 fa kf s1 hf hF _ => ?_⟩
  have el : (gs.map gD).length = gs.length := List.length_map _
  refine fin q s1 (d := tD (outc gs p)) (ev_tupOf (evm_lcA (List.range (gs.map gD).length) nD (fun g => oD ((outc gs p).getD g none)) (ei_rngD (ev_lenT (ev_ixT (ev_var rfl (h0.mono s1)) ev_int rfl)) (by omega)) (by rw [List.length_range]; omega) fun a ha D acc hD G1 x s2 dj hx => ⟨rfl, ?_⟩).toE.toS) ?_
  · rw [List.mem_range, el] at ha
    obtain ⟨u, b, e, _, hb⟩ := split_at hp.1 ((hp.2 a).mpr ha)
    have h2 := hF u a b e
    have h3 := outc_at (gs := gs) (a := u) ha hb
    rw [← e] at h3
    refine ev_dget1 rfl (s2 _ _ hf) (ev_var rfl hx) ?_
    show Dp K G1 ((valV kf (iK a)).getD .non) _
    rw [h2, getD_of h3]
    exact oD_dp _
  · unfold tD
    rw [el]
    congr 1
    have := map_range (l := (outc gs p).map oD) (f := fun g => oD ((outc gs p).getD g none)) fun i x hx => by
      rw [List.getElem?_map] at hx
      cases e : (outc gs p)[i]? with
      | none => rw [e] at hx; cases hx
      | some y =>
        rw [e] at hx
        rw [getD_of e]
        exact Option.some.inj hx
    rw [List.length_map, outc_length] at this
    exact this
end
end Lw
/-! text K7 -/
set_option Elab.async false
set_option linter.all false
set_option maxRecDepth 100000
set_option maxHeartbeats 2000000
namespace Lw
open PySem PySem.Spec PyProof.Rows L2
/-! ### sorted(xs), xs a list of pairs of ints -/
def PrAt (K : PySem.W.Frag) (H : Hp) (x : V) (k : Int × Int) : Prop := ∃ t, x = V.ref t ∧ SqT K H t [.int k.1, .int k.2]
def Prs (K : PySem.W.Frag) (H : Hp) (xs : List V) (ks : List (Int × Int)) : Prop := xs.length = ks.length ∧ ∀ (i : Nat) (x : V) (k : Int × Int), xs[i]? = some x → ks[i]? = some k → PrAt K H x k
def rSortedQ (K : PySem.W.Frag) : List V → Hp → VK → Prop := fun vs H Q => ∃ (a : Addr) (xs : List V) (ks : List (Int × Int)), vs = [V.ref a] ∧ SqL K H a xs ∧ Prs K H xs ks ∧
  ∀ ys ls p, Prs K H ys ls → ls.Perm ks → ls.Pairwise (fun x y => SrtO.lexB y x = false) → H p = none → Q (.ref p) (upd H p (.lst ys))
section
variable {X : Cx}
theorem cr_sortedQ : CallR X (.builtin "sorted") (rSortedQ X.K) := by
  intro pins s σ H vs us Q I r h
  obtain ⟨a, xs, ks, rfl, hs, ⟨hl0, hx⟩, q⟩ := h
  obtain ⟨its, rv, hl, hz⟩ := I.list hs
  obtain ⟨u, rfl, ru⟩ := vals1 r
  obtain rfl : u = Value.ref a := ru
  have ex : ∀ x ∈ xs, ∃ k, PrAt X.K H x k := fun x hm => by
    obtain ⟨i, hi, e⟩ := List.mem_iff_getElem.mp hm
    exact ⟨ks[i]'(by omega), hx i x _ (by rw [List.getElem?_eq_getElem hi, e]) (List.getElem?_eq_getElem (by omega))⟩
  have un : ∀ x k k', PrAt X.K H x k → PrAt X.K H x k' → k = k' := fun x k k' h h' => by
    obtain ⟨t, e, h⟩ := h
    obtain ⟨t', e', h'⟩ := h'
    rw [e] at e'
    cases e'
    have := I.tuple_inj h h'
    cases k
    cases k'
    simp at this
    rw [this.1, this.2]
  have key : ∀ x : V, ∃ k : Int × Int, x ∈ xs → PrAt X.K H x k := fun x => by
    by_cases hm : x ∈ xs
    · obtain ⟨k, hk⟩ := ex x hm
      exact ⟨k, fun _ => hk⟩
    · exact ⟨(0, 0), fun q => absurd q hm⟩
  have hk := fun x => Classical.choose_spec (key x)
  generalize hkd : (fun x => Classical.choose (key x)) = k at hk
  have hk : ∀ x ∈ xs, PrAt X.K H x (k x) := fun x hm => by
    have := hk x hm
    rw [← hkd]
    exact this
  have eks : ks = xs.map k := by
    refine List.ext_getElem? fun i => ?_
    rw [List.getElem?_map]
    by_cases hi : i < xs.length
    · rw [List.getElem?_eq_getElem hi, List.getElem?_eq_getElem (by omega)]
      exact congrArg some (un _ _ _ (hx i _ _ (List.getElem?_eq_getElem hi) (List.getElem?_eq_getElem (by omega))) (hk _ (List.getElem_mem hi)))
    · rw [List.getElem?_eq_none (by omega), List.getElem?_eq_none (by omega)]
      rfl
  obtain ⟨e1, e2⟩ := refs_back rv fun x m => by
    obtain ⟨t, e, _⟩ := hk x m
    exact ⟨t, e⟩
  refine SrtO.sorted_pairsO (k := fun u => k (backV u)) hl.isList (by rw [← rv.length]; exact hz) (fun v hv => ?_) fun h' d out h1 h2 kp hd hn => ?_
  · obtain ⟨t, rfl⟩ := e2 v hv
    have hm : V.ref t ∈ xs := by rw [e1]; exact List.mem_map.mpr ⟨_, hv, rfl⟩
    obtain ⟨t', e, ht⟩ := hk _ hm
    cases e
    obtain ⟨its2, r2, ⟨o, ho, hc, n, hd⟩, _⟩ := I.tuple ht
    obtain ⟨u1, u2, rfl, ri, rj⟩ := vals2 r2
    obtain ⟨t1, rfl⟩ := ri
    obtain ⟨t2, rfl⟩ := rj
    exact ⟨t, o, t1, t2, n, rfl, ho, hc, hd⟩
  · have h3 : ∀ u ∈ out, ∃ a, u = Value.ref a := fun u hu => e2 u (h2.perm.mem_iff.mp hu)
    obtain ⟨n, hn⟩ := hn
    have hb : SrtO.Stb (ltP k) (out.map backV) xs := by
      rw [e1]
      exact SrtO.Stb.map (ltP_swo k) backV h2
    have sd : SrtO.Srtd (ltP k) (out.map backV) := SrtO.srtd_map h1
    refine ⟨.ref d, upd H d (.lst (out.map backV)), I.laid (t' := s.toks) kp hd ⟨?_, out, n, vals_back h3, hn⟩, rfl, q _ ((out.map backV).map k) d ⟨(List.length_map _).symm, fun i x z hx hz => ?_⟩ (by rw [eks]; exact hb.perm.map k) (List.pairwise_map.mpr sd) (I.hok.fresh hd)⟩
    · rw [hb.len]
      exact hz
    · rw [List.getElem?_map, hx] at hz
      cases hz
      exact hk x (hb.perm.mem_iff.mp (List.mem_of_getElem? hx))
theorem pe_sortedP {a : Expr} {ta : TE} {p pos : Pos} (K : PySem.W.Frag) (T : Tx X.mg) (ha : PE X a ta) (hK : X.K = K := by rfl) (hg : Gl X "sorted" := by rfl) (he : starEach (a :: []) X.env = (false, eval a X.env) :: starEach [] X.env := by rfl) : PE X (.Call (.Name "sorted" p) [a] [] pos) (tCB (rSortedQ K) (tCons ta tNil)) := by
  subst hK
  exact pe_callB cr_sortedQ hg T.sorted_ (by decide +kernel) (pa_cons ha pa_nil he) (by decide) (by decide) he rfl
theorem pe_sortedT {a : Expr} {ta : TE} {p pos : Pos} (K : PySem.W.Frag) (T : Tx X.mg) (ha : PE X a ta) (hK : X.K = K := by rfl) (hg : Gl X "sorted" := by rfl) (he : starEach (a :: []) X.env = (false, eval a X.env) :: starEach [] X.env := by rfl) : PE X (.Call (.Name "sorted" p) [a] [] pos) (tCB (rSortedT K) (tCons ta tNil)) := by
  subst hK
  exact pe_callB cr_sortedT hg T.sorted_ (by decide +kernel) (pa_cons ha pa_nil he) (by decide) (by decide) he rfl
theorem pe_lenSetL {a : Expr} {ta : TE} {p p2 q pos : Pos} (K : PySem.W.Frag) (T : Tx X.mg) (ha : PE X a ta) (hK : X.K = K := by rfl) (hg : Gl X "len" := by rfl) (hg2 : Gl X "set" := by rfl) (hc : X.calm = true := by rfl)
    (na : starEach [a] X.env = (false, eval a X.env) :: starEach [] X.env := by rfl) : PE X (.Call (.Name "len" p) [.Call (.Name "set" p2) [a] [] q] [] pos) (RZ.tLenSetI K ta) := by
  subst hK
  exact RZ.pe_lenSetI hg T.len_ hg2 T.set_ ha hc na
theorem wi_zip {e e2 : Expr} {te te2 : TE} {p pos tpos : Pos} {elts : List Expr} {kk : Nat} (K : PySem.W.Frag) (T : Tx X.mg) (ha : PE X e te) (hb : PE X e2 te2) (hK : X.K = K := by rfl) (hg : Gl X "zip" := by rfl)
    (hs : starEach [e, e2] X.env = (false, eval e X.env) :: starEach [e2] X.env := by rfl) (hs2 : starEach [e2] X.env = (false, eval e2 X.env) :: starEach [] X.env := by rfl) (hpl : (backTo pos (starEach [e2] X.env)).any (·.1) = false := by rfl) :
    PI X (.Tuple elts kk tpos) (.Call (.Name "zip" p) [e, e2] [] pos) (RZ.iZipA K (tCons te (tCons te2 tNil))) := by
  subst hK
  exact RZ.pi_zipA hg T.zip_ (pa_cons ha (pa_cons hb pa_nil hs2) hs) hs hpl
theorem pg3 {x y z : Expr} {t : TGs} {x1 : Nat} {pos : Pos} (K : PySem.W.Frag) (hc : X.calm = true) (h : PGs X [x, y, z] t) (hK : X.K = K := by rfl) (hn : (assignEach [x, y, z] X.env).length = [x, y, z].length := by rfl) (hst : (assignEach [x, y, z] X.env).findIdx? (·.1) = none := by rfl) : PG X (.Tuple [x, y, z] x1 pos) (gTup K 3 t) := by
  subst hK
  exact pg_tup hc h hn hst
end
/-- pairs of numbers, sorted -/
def leP (p q : Nat × Nat) : Bool := decide (p.1 < q.1 ∨ p.1 = q.1 ∧ p.2 ≤ q.2)
def srtP (ps : List (Nat × Nat)) : List (Nat × Nat) := ps.mergeSort leP
theorem leP_trans (a b c : Nat × Nat) : leP a b = true → leP b c = true → leP a c = true := by
  unfold leP
  simp only [decide_eq_true_eq]
  omega
theorem leP_total (a b : Nat × Nat) : (leP a b || leP b a) = true := by
  unfold leP
  by_cases h : a.1 < b.1 ∨ a.1 = b.1 ∧ a.2 ≤ b.2
  · rw [decide_eq_true h]; rfl
  · rw [decide_eq_false h, Bool.false_or, decide_eq_true_eq]
    omega
theorem srtP_perm (ps : List (Nat × Nat)) : (srtP ps).Perm ps := List.mergeSort_perm ps leP
theorem srtP_sorted (ps : List (Nat × Nat)) : (srtP ps).Pairwise (fun x y => leP x y = true) := List.pairwise_mergeSort leP_trans leP_total ps
def iP (p : Nat × Nat) : Int × Int := ((p.1 : Nat), (p.2 : Nat))
theorem srtP_uniq {ps : List (Nat × Nat)} {ls : List (Int × Int)} (hp : ls.Perm (ps.map iP)) (hs : ls.Pairwise (fun x y => SrtO.lexB y x = false)) : ls = (srtP ps).map iP := by
  have hp2 : ls.Perm ((srtP ps).map iP) := hp.trans ((srtP_perm ps).map iP).symm
  refine hp2.eq_of_pairwise (le := fun x y => SrtO.lexB y x = false) (fun a b _ _ h1 h2 => ?_) hs (List.pairwise_map.mpr ((srtP_sorted ps).imp fun {a b} h => ?_))
  · have a1 := SrtO.lexB_no.mp h1
    have a2 := SrtO.lexB_no.mp h2
    refine Prod.ext ?_ ?_ <;> omega
  · unfold leP at h
    rw [decide_eq_true_eq] at h
    refine SrtO.lexB_no.mpr ?_
    show ¬(((b.1 : Nat) : Int) < ((a.1 : Nat) : Int) ∨ ((b.1 : Nat) : Int) = ((a.1 : Nat) : Int) ∧ ((b.2 : Nat) : Int) < ((a.2 : Nat) : Int))
    omega
theorem sq_unT {K : PySem.W.Frag} {G : Hp} {M : Mh} {a : Addr} {xs : List V} (h : SqT K (jn G M) a xs) : SqT K G a xs := by
  have un : ∀ {o : HO}, (∀ l, o ≠ .lst l) → jn G M a = some o → G a = some o := fun ne e => by
    cases z : M.lookup a with
    | none => rw [jn_out z] at e; exact e
    | some ys => rw [jn_in z] at e; exact absurd (Option.some.inj e).symm (ne _)
  rcases h with (h | ⟨o, h⟩) | h
  · exact .inl (.inl (un (fun _ q => nomatch q) h))
  · exact .inl (.inr ⟨o, un (fun _ q => nomatch q) h⟩)
  · exact .inr h
section
variable {K : PySem.W.Frag} {M : Mh} {σ : L2.St} {G G' : Hp} {ta tb tc te : TE} {t u : TT} {d e : PyData} {ds es : List PyData} {i j : Int} {b c : Bool}
theorem dpall_get {H : Hp} : ∀ {xs : List V} {ds : List PyData}, xs.length = ds.length → (∀ (i : Nat) (x : V) (d : PyData), xs[i]? = some x → ds[i]? = some d → Dp K H x d) → DpAll K H xs ds
  | [], [], _, _ => .nil
  | x :: xs, d :: ds, hl, h => .cons (h 0 x d rfl rfl) (dpall_get (by simpa using hl) fun i y e h1 h2 => h (i + 1) y e h1 h2)
  | [], _ :: _, hl, _ => by simp at hl
  | _ :: _, [], hl, _ => by simp at hl
theorem evm_sortedP {ps : List (Nat × Nat)} (h : EvS K M te σ G (ps.map fun p => .tuple [nD p.1, nD p.2])) : EvM K M (tCB (rSortedQ K) (tCons te tNil)) σ G ((srtP ps).map fun p => .tuple [nD p.1, nD p.2]) := fun G1 s dj Q q => h G1 s dj _ fun p xs G2 s2 dj2 h1 h2 => by
  refine ⟨p, xs, ps.map iP, rfl, h1, ⟨by rw [h2.len, List.length_map, List.length_map], fun i x k hx hk => ?_⟩, fun ys ls p' hy hperm hs hp => ?_⟩
  · obtain ⟨d, e1, e2⟩ := h2.get' hx
    rw [List.getElem?_map] at e1 hk
    cases e : ps[i]? with
    | none => rw [e] at e1; cases e1
    | some pr =>
      rw [e] at e1 hk
      cases e1
      cases hk
      obtain ⟨a, zs, rfl, k1, k2⟩ := dp_tup e2
      refine ⟨a, rfl, sq_jnT dj2 ?_⟩
      cases k2 with
      | cons c1 k2 => cases k2 with
        | cons c2 k2 =>
          cases k2
          cases c1
          cases c2
          exact k1
  · have e := srtP_uniq hperm hs
    subst e
    refine to_new s2 dj2 (dpall_get (by rw [hy.1, List.length_map, List.length_map]) fun i x d hx hd => ?_) q p' hp
    rw [List.getElem?_map] at hd
    cases e : (srtP ps)[i]? with
    | none => rw [e] at hd; cases hd
    | some pr =>
      rw [e] at hd
      cases hd
      obtain ⟨a, rfl, hq⟩ := hy.2 i x (iP pr) hx (by rw [List.getElem?_map, e]; rfl)
      exact .tup (sq_unT hq) (.cons (.int _) (.cons (.int _) .nil))
/-- sorted(t) of a tuple of numbers -/
def srtN (ns : List Nat) : List Nat := ns.mergeSort fun a b => decide (a ≤ b)
theorem srtN_perm (ns : List Nat) : (srtN ns).Perm ns := List.mergeSort_perm ns _
theorem srtN_sorted (ns : List Nat) : (srtN ns).Pairwise (· ≤ ·) := (List.pairwise_mergeSort (le := fun a b : Nat => decide (a ≤ b)) (fun a b c h1 h2 => by simp at *; omega) (fun a b => by simp; omega) ns).imp fun h => by simpa using h
theorem evm_sortedT {ns : List Nat} (h : Ev K M te σ G (.tuple (ns.map nD))) : EvM K M (tCB (rSortedT K) (tCons te tNil)) σ G ((srtN ns).map nD) := fun G1 s dj Q q => h G1 s dj _ fun v G2 s2 dj2 hv => by
  obtain ⟨a, xs, rfl, h1, h2⟩ := dp_tup hv
  rw [nat_map] at h2
  rw [h2.ints] at h1
  refine ⟨a, _, rfl, sq_jnT dj2 h1, fun ns' p hp hs hn => ?_⟩
  have e : ns' = (srtN ns).map fun k => ((k : Nat) : Int) := by
    refine (hp.trans ((srtN_perm ns).map _).symm).eq_of_pairwise (le := (· ≤ ·)) (fun a b _ _ h1 h2 => Int.le_antisymm h1 h2) hs (List.pairwise_map.mpr ((srtN_sorted ns).imp fun h => by omega))
  rw [e]
  refine to_new s2 dj2 ?_ q p hn
  rw [nat_map]
  exact dpall_ints _
/-- len(set(xs)) of a list of unlike numbers -/
theorem ev_lenSetL {ns : List Nat} (h : EvS K M te σ G (ns.map nD)) (nd : ns.Nodup) (hl : ns.length ≤ 4000) : Ev K M (RZ.tLenSetI K te) σ G (nD ns.length) := fun G1 s dj Q q => h G1 s dj _ fun a xs G2 s2 dj2 h1 h2 => by
  rw [nat_map] at h2
  rw [h2.ints] at h1
  refine ⟨a, _, rfl, h1, cast_nodup nd, by rw [List.length_map]; exact hl, ?_⟩
  rw [List.length_map]
  exact q _ G2 s2 dj2 (.int _)
/-! zip -/
def zipD (ds es : List PyData) : List PyData := (ds.zip es).map fun p => .tuple [p.1, p.2]
theorem zipD_at {i : Nat} {p : PyData} (h : (zipD ds es)[i]? = some p) : ∃ d e, ds[i]? = some d ∧ es[i]? = some e ∧ p = .tuple [d, e] := by
  unfold zipD at h
  rw [List.getElem?_map] at h
  cases q : (ds.zip es)[i]? with
  | none => rw [q] at h; cases h
  | some z =>
    rw [q] at h
    obtain ⟨h1, h2⟩ := List.getElem?_zip_eq_some.mp q
    exact ⟨z.1, z.2, h1, h2, (Option.some.inj h).symm⟩
theorem zipD_len : (zipD ds es).length = min ds.length es.length := by unfold zipD; rw [List.length_map, List.length_zip]
theorem zipD_mk {i : Nat} (h1 : ds[i]? = some d) (h2 : es[i]? = some e) : (zipD ds es)[i]? = some (.tuple [d, e]) := by
  unfold zipD
  have z : (ds.zip es)[i]? = some (d, e) := List.getElem?_zip_eq_some.mpr ⟨h1, h2⟩
  rw [List.getElem?_map, z]
  rfl
theorem ei_zipT (ha : Ev K M ta σ G (.tuple ds)) (hb : Ev K M tb σ G (.tuple es)) : EvI K M (RZ.iZipA K (tCons ta (tCons tb tNil))) σ G (zipD ds es) Any := fun G1 s dj R r =>
  ha G1 s dj _ fun v G2 s2 dj2 hv => hb G2 (s.trans s2) dj2 _ fun u G3 s3 dj3 hu => by
    obtain ⟨a, xs, rfl, a1, a2⟩ := dp_tup (hv.mono s3)
    obtain ⟨b, ys, rfl, b1, b2⟩ := dp_tup hu
    have la := a2.len
    have lb := b2.len
    refine ⟨a, b, xs, ys, rfl, .inr ⟨sq_jnT dj3 a1, sq_jnT dj3 b1, r _ G3 (s2.trans s3) dj3 ⟨fun i G4 M4 hi s4 dj4 _ => ?_, fun G4 M4 s4 dj4 _ => ?_, fun i G4 M4 x H' hi s4 dj4 _ y => ?_⟩⟩⟩
    · rw [zipD_len] at hi
      exact ⟨xs, ys, xs[i]'(by omega), ys[i]'(by omega), sq_jnT dj4 (seqT s4 a1), sq_jnT dj4 (seqT s4 b1), List.getElem?_eq_getElem _, List.getElem?_eq_getElem _⟩
    · rw [zipD_len]
      exact ⟨xs, ys, sq_jnT dj4 (seqT s4 a1), sq_jnT dj4 (seqT s4 b1), by omega⟩
    · obtain ⟨Tn, x, y, rfl, hn, rfl, hx, hy⟩ := y
      have n := jn_none hn
      obtain ⟨d, d1, d2⟩ := a2.get' (hx xs (sq_jnT dj4 (seqT s4 a1)))
      obtain ⟨e, e1, e2⟩ := b2.get' (hy ys (sq_jnT dj4 (seqT s4 b1)))
      exact ⟨upd G4 Tn (.tup [x, y]), _, jn_new hn, same_new n.2, dj_new dj4 hn, zipD_mk d1 e1, .tup (.of upd_same) (.cons (d2.mono (s4.trans (same_new n.2))) (.cons (e2.mono (s4.trans (same_new n.2))) .nil))⟩
theorem ei_zipL (ha : Ev K M ta σ G (.list ds)) (hb : Ev K M tb σ G (.list es)) : EvI K M (RZ.iZipA K (tCons ta (tCons tb tNil))) σ G (zipD ds es) Any := fun G1 s dj R r =>
  ha G1 s dj _ fun v G2 s2 dj2 hv => hb G2 (s.trans s2) dj2 _ fun u G3 s3 dj3 hu => by
    obtain ⟨a, xs, rfl, a1, a2⟩ := dp_lst (hv.mono s3)
    obtain ⟨b, ys, rfl, b1, b2⟩ := dp_lst hu
    have la := a2.len
    have lb := b2.len
    refine ⟨a, b, xs, ys, rfl, .inl ⟨sq_jnL dj3 a1, sq_jnL dj3 b1, r _ G3 (s2.trans s3) dj3 ⟨fun i G4 M4 hi s4 dj4 _ => ?_, fun G4 M4 s4 dj4 _ => ?_, fun i G4 M4 x H' hi s4 dj4 _ y => ?_⟩⟩⟩
    · rw [zipD_len] at hi
      exact ⟨xs, ys, xs[i]'(by omega), ys[i]'(by omega), sq_jnL dj4 (s4.seq a1), sq_jnL dj4 (s4.seq b1), List.getElem?_eq_getElem _, List.getElem?_eq_getElem _⟩
    · rw [zipD_len]
      exact ⟨xs, ys, sq_jnL dj4 (s4.seq a1), sq_jnL dj4 (s4.seq b1), by omega⟩
    · obtain ⟨Tn, x, y, rfl, hn, rfl, hx, hy⟩ := y
      have n := jn_none hn
      obtain ⟨d, d1, d2⟩ := a2.get' (hx xs (sq_jnL dj4 (s4.seq a1)))
      obtain ⟨e, e1, e2⟩ := b2.get' (hy ys (sq_jnL dj4 (s4.seq b1)))
      exact ⟨upd G4 Tn (.tup [x, y]), _, jn_new hn, same_new n.2, dj_new dj4 hn, zipD_mk d1 e1, .tup (.of upd_same) (.cons (d2.mono (s4.trans (same_new n.2))) (.cons (e2.mono (s4.trans (same_new n.2))) .nil))⟩
/-! list(range(..)), tuple(range(..)) -/
theorem rgV_nat (n : Nat) : rgV 0 ((n : Nat) : Int) = (List.range n).map fun k => V.int ((k : Nat) : Int) := by
  unfold rgV
  rw [show (((n : Nat) : Int) - 0).toNat = n by omega]
  exact List.map_congr_left fun k _ => by rw [show (0 : Int) + (k : Nat) = ((k : Nat) : Int) by omega]
theorem dp_rgV {H : Hp} (n : Nat) : DpAll K H (rgV 0 ((n : Nat) : Int)) ((List.range n).map nD) := by
  rw [rgV_nat, nat_map, show (fun k : Nat => V.int ((k : Nat) : Int)) = V.int ∘ (fun k : Nat => ((k : Nat) : Int)) from rfl, ← List.map_map]
  exact dpall_ints _
theorem evm_lstRg {n : Nat} (h : Ev K M te σ G (nD n)) (hn : n ≤ 100000) : EvM K M (tLstRg (tRg1 te)) σ G ((List.range n).map nD) := fun G1 s dj Q q => h G1 s dj _ fun v G2 s2 dj2 hv => by
  cases hv
  exact ⟨_, rfl, RgOk.of_le (by omega) (by omega) (by omega) (by omega), to_new s2 dj2 (dp_rgV n) q⟩
theorem ev_tupRg {n : Nat} (h : Ev K M te σ G (nD n)) (hn : n ≤ 100000) : Ev K M (tTupRg (tRg1 te)) σ G (rD (List.range n)) := fun G1 s dj Q q => h G1 s dj _ fun v G2 s2 dj2 hv => by
  cases hv
  refine ⟨_, rfl, RgOk.of_le (by omega) (by omega) (by omega) (by omega), fun p hp => ?_⟩
  have n2 := jn_none hp
  rw [jn_new hp]
  exact q _ _ (s2.trans (same_new n2.2)) (dj_new dj2 hp) (.tup (.of upd_same) (dp_rgV n))
theorem erase_map {α β : Type} (f : α → β) : ∀ (l : List α) (j : Nat), (l.eraseIdx j).map f = (l.map f).eraseIdx j
  | [], _ => rfl
  | _ :: _, 0 => rfl
  | a :: l, j + 1 => congrArg (f a :: ·) (erase_map f l j)
/-! statements on lists of one's own -/
section
variable {D : Ends} {us : TS} {k : Nat} {p : Addr} {xs : List V}
theorem s_extend (hp : σ[k]? = some (some (.ref p))) (h : EvL K ((p, xs) :: M) te σ G ds) (hl : xs.length + ds.length ≤ 100000) (dj : Dj G ((p, xs) :: M)) (q : ∀ zs G2, Same G G2 → Dj G2 ((p, xs ++ zs) :: M) → DpAll K G2 zs ds → D.nx σ (jn G2 ((p, xs ++ zs) :: M))) :
    tDrop (tBM K "list" rExtend (tVar k) (tCons te tNil)) D σ (jn G ((p, xs) :: M)) :=
  ⟨.ref p, hp, .inl ⟨rfl, _, .of jn_mine⟩, h G (Same.refl _) dj _ fun r zs G2 s dj2 hr hd => ⟨p, r, xs, zs, rfl, rfl, jn_mine, hr, Nat.le_trans (by rw [hd.len]; exact hl) (by decide), by
    rw [jn_set]
    exact q zs G2 s (dj_set dj2) hd⟩⟩
theorem st_remove {n : Nat} {ns : List Nat} {jx : Nat} (hp : σ[k]? = some (some (.ref p))) (h : Ev K ((p, xs) :: M) te σ G (nD n)) (hx : xs = ns.map fun k => V.int ((k : Nat) : Int)) (hj : ns[jx]? = some n) (hno : ∀ m : Nat, m < jx → ns[m]? ≠ some n) (dj : Dj G ((p, xs) :: M))
    (q : ∀ G2, Same G G2 → Dj G2 ((p, (ns.eraseIdx jx).map fun k => V.int ((k : Nat) : Int)) :: M) → D.nx σ (jn G2 ((p, (ns.eraseIdx jx).map fun k => V.int ((k : Nat) : Int)) :: M))) :
    tDrop (tBM K "list" rRemI (tVar k) (tCons te tNil)) D σ (jn G ((p, xs) :: M)) := by
  have cm : ∀ l : List Nat, (l.map fun k => V.int ((k : Nat) : Int)) = (l.map fun k => ((k : Nat) : Int)).map V.int := fun l => by rw [List.map_map]; rfl
  refine ⟨.ref p, hp, .inl ⟨rfl, _, .of jn_mine⟩, h G (Same.refl _) dj _ fun v G2 s dj2 hv => ?_⟩
  cases hv
  refine ⟨p, ns.map fun k => ((k : Nat) : Int), _, jx, rfl, rfl, by rw [jn_mine, hx, cm], by rw [List.getElem?_map, hj]; rfl, fun m hm e => ?_, ?_⟩
  · rw [List.getElem?_map] at e
    cases z : ns[m]? with
    | none => rw [z] at e; cases e
    | some y =>
      rw [z] at e
      have : y = n := Int.ofNat.inj (Option.some.inj e)
      subst this
      exact hno m hm z
  · rw [jn_set, ← erase_map, ← cm]
    exact q G2 s (dj_set dj2)
end
theorem nt_of {D : Ends} {Pv : L2.St → Hp → Mh → Prop} {G4 : Hp} {M4 : Mh} {σ4 : L2.St} (hD : D.nx = Nx G Pv) (s : Same G G4) (dj : Dj G4 M4) (h : Pv σ4 G4 M4) : tNext D σ4 (jn G4 M4) := by
  show D.nx _ _
  rw [hD]
  exact nx_of s dj h
theorem nd_of {D : Ends} {Pv : L2.St → Hp → Mh → Prop} {G4 : Hp} {M4 : Mh} {σ4 : L2.St} (hD : D.nx = Nx G Pv) (s : Same G G4) (dj : Dj G4 M4) (h : Pv σ4 G4 M4) : D.nx σ4 (jn G4 M4) := by
  rw [hD]
  exact nx_of s dj h
theorem s_for {wi : TI} {g : TG} {tb us : TS} {D : Ends} (hI : EvI K M wi σ G ds Any) (Pv : Nat → L2.St → Hp → Mh → Prop) (dj : Dj G M) (h0 : ∀ G2, Same G G2 → Dj G2 M → Pv 0 σ G2 M) (hmono : ∀ i σ1 G3 G4 M3, Same G3 G4 → Pv i σ1 G3 M3 → Pv i σ1 G4 M3)
    (hs : ∀ G2, Same G G2 → ∀ i d σ1 G3 M3 x, ds[i]? = some d → Same G2 G3 → Dj G3 M3 → Pv i σ1 G3 M3 → Dp K G3 x d → g x σ1 (jn G3 M3) fun σ2 H2 => tb { D with nx := Nx G2 (Pv (i + 1)), ct := Nx G2 (Pv (i + 1)), bk := us D } σ2 H2)
    (hd : ∀ σ1 G3 M3, Same G G3 → Dj G3 M3 → Pv ds.length σ1 G3 M3 → us D σ1 (jn G3 M3)) : tSeq (tFor wi g tb) us D σ (jn G M) := ef_for (D := { D with nx := us D }) hI Pv dj h0 hmono hs hd
theorem s_while {tc : TT} {tb us : TS} {D : Ends} (Pv : Nat → L2.St → Hp → Mh → Prop) (dj : Dj G M) (m0 : Nat) (h0 : Pv m0 σ G M)
    (hs : ∀ m σ1 G3 M3, Same G G3 → Dj G3 M3 → Pv m σ1 G3 M3 → ∃ b, EvB M3 tc σ1 G3 b ∧
      (b = true → ∀ G4, Same G3 G4 → Dj G4 M3 → tb { D with nx := Nx G (fun σ' G' M' => ∃ m', m' < m ∧ Pv m' σ' G' M'), ct := Nx G (fun σ' G' M' => ∃ m', m' < m ∧ Pv m' σ' G' M'), bk := us D } σ1 (jn G4 M3)) ∧ (b = false → ∀ G4, Same G3 G4 → Dj G4 M3 → us D σ1 (jn G4 M3))) : tSeq (tWhile tc tb) us D σ (jn G M) := ef_while (D := { D with nx := us D }) Pv dj m0 h0 hs
/-! the answer, own lists still there -/
theorem same_jn {G : Hp} {M : Mh} (dj : Dj G M) : Same G (jn G M) := fun b o h => jn_at dj h
theorem finM {D : Ends} {H : Hp} {Q : VK} (q : ∀ v H', Same H H' → Dp K H' v d → Q v H') (s : Same H G) (dj : Dj G M) (h : EvJ K M te σ G e) (he : e = d := by rfl) (hD : D.rt = Q := by rfl) : tRet te D σ (jn G M) := by
  subst hD
  subst he
  exact h G (Same.refl _) dj _ fun v G2 s2 dj2 hv => q v _ (s.trans (s2.trans (same_jn dj2))) hv
end
end Lw
/-! text D6 -/
set_option Elab.async false
set_option linter.all false
set_option maxRecDepth 100000
set_option maxHeartbeats 2000000
namespace Lw
open PySem PySem.Spec PyProof.Rows L2
section
variable {P : Program} {w : World} {K : PySem.W.Frag} {mg : Str → Option Value} {base : Heap}
theorem held_eq (T : List (Option Nat)) : (T.filter Option.isSome).map oD = (T.filterMap id).map nD := by
  induction T with
  | nil => rfl
  | cons o T ih =>
    cases o with
    | none => exact ih
    | some n =>
      show nD n :: (T.filter Option.isSome).map oD = nD n :: (T.filterMap id).map nD
      rw [ih]
theorem held_nodup {gs : Gs} {T : List (Option Nat)} (S : Sound gs T) : (T.filterMap id).Nodup := by
  unfold List.Nodup
  rw [List.pairwise_filterMap]
  refine List.pairwise_iff_getElem.mpr fun i j hi hj hij => ?_
  intro x hx y hy e
  subst e
  have l := S.len
  have ei : T.getD i none = some x := by rw [List.getD_eq_getElem?_getD, List.getElem?_eq_getElem hi]; exact hx
  have ej : T.getD j none = some x := by rw [List.getD_eq_getElem?_getD, List.getElem?_eq_getElem hj]; exact hy
  have := S.inj i j x (by omega) (by omega) ei ej
  omega
theorem isNon_oD (o : Option Nat) : isNon (oD o) = !o.isSome := by cases o <;> rfl
/-! ### is_taking_in(web, thing) -/
def R_is_taking_in : List PyData → PyData → Prop := fun ds d => ∃ (n : Nat) (gs : Gs) (T : List (Option Nat)), ds = [webD n gs, tD T] ∧ Sound gs T ∧ gs.length ≤ 1000 ∧ d = .bool true
theorem sc_is_taking_in : FnScope ["web", "thing", "own", "guest", "held"] ["web", "thing"] (defScope s_is_taking_in) := ⟨rfl, rfl, rfl, by decide +kernel, rfl, by decide +kernel, by decide +kernel⟩
theorem c_is_taking_in (T : Tx mg) (D : Dn K mg "is_taking_in" s_is_taking_in ["web", "thing"]) (k_is_number : Cal P w K mg base 1 "is_number" (Pr K R_is_number)) : Cal P w K mg base 2 "is_taking_in" (Pr K R_is_taking_in) := by
  refine D.pr sc_is_taking_in (fun ds d h => by obtain ⟨n, g, p, rfl, _⟩ := h; rfl) (fun f cdv A outer s H E vs ds d hr h hv => ?_)
  obtain ⟨n, gs, tk, rfl, S, hl, rfl⟩ := h
  obtain ⟨v0, v1, rfl, h0, h1⟩ := dp2 hv
  have sl := S.len
  refine ⟨_, (pss_cons (ps_if (PW.pt (pw_or (pt_not (pt_val (pe_isi K T (pv 1) (ty_tuple T)))) (pw_or1 (pt_cmpR op_ne (pe_len K T (pv 1)) (pe_len K T (xT K (pv 0) pe_int)) (nomark _)))))
      (pss_one (ps_ret pe_bl))
      pss_nil)
    (pss_cons (ps_for PassesOwn.never rfl (wi_zip K T (pv 1) (xT K (pv 0) pe_int)) (pg2 K rfl (pgs_cons (pg_name (i := 2) sc_is_taking_in.nd rfl (Or.inl rfl)) (pgs_cons (pg_name (i := 3) sc_is_taking_in.nd rfl (Or.inl rfl)) pgs_nil)))
      (pss_one (ps_if (PW.pt (pw_and (pt_cmpR op_notN (pv 2) pe_non (nomark _)) (pw_and1 (pt_not (PW.pt (pw_and (pt_val (pe_ca k_is_number hr (by decide) rfl (pa_cons (pv 2) pa_nil))) (pw_and1 (pt_in K (pv 2) (pv 3)))))))))
        (pss_one (ps_ret pe_bl))
        pss_nil)))
    (pss_cons (slcF 2 4 sc_is_taking_in.nd (wi_tup K (pv 1)) (fun _ _ _ _ _ => (pt_cmpR op_notN (pv 2) pe_non (nomark _))) (fun _ _ _ _ _ => (pv 2)))
    (pss_one (ps_ret (pe_cmpR op_eq (pe_lenSetL K T (pv 4)) (pe_len K T (pv 4)) (nomark _))))))), fun Q q => ?_⟩
  refine s_ifF (eb_or (eb_not (eb_B (ev_isi (ev_var rfl h1).toJ kit_tuple_tuple))) fun _ => eb_test (ev_neI (ev_lenT (ev_var rfl h1)) (ev_lenT (ev_ixT (d := .tuple (gs.map gD)) (ev_var rfl h0) ev_int rfl)))) (dj_nil _) (by simp [sl]) fun G2 s2 dj2 => ?_
  refine s_for (ei_zipT (ds := tk.map oD) (es := gs.map gD) (ev_var rfl (h1.mono s2)) (ev_ixT (d := .tuple (gs.map gD)) (ev_var rfl (h0.mono s2)) ev_int rfl)) (fun _ σ1 _ M1 => M1 = [] ∧ ∃ x y, σ1 = [some v0, some v1, x, y, none]) dj2 (fun _ _ _ => ⟨rfl, none, none, rfl⟩) (fun _ _ _ _ _ _ h => h) ?_ ?_
  · rintro G3 s3 i d σ1 G4 M3 x hd s4 dj4 ⟨rfl, x2, x3, rfl⟩ hx
    obtain ⟨d1, d2, e1, e2, rfl⟩ := zipD_at hd
    rw [List.getElem?_map] at e1 e2
    cases q1 : tk[i]? with
    | none => rw [q1] at e1; cases e1
    | some o =>
    cases q2 : gs[i]? with
    | none => rw [q2] at e2; cases e2
    | some g =>
    rw [q1] at e1
    rw [q2] at e2
    cases e1
    cases e2
    have hi : i < gs.length := (List.getElem?_eq_some_iff.mp q2).1
    have at_ := S.at_ i hi
    rw [getD_of q1, getD_of q2] at at_
    refine g_two dj4 hx fun v2 v3 h2 h3 => ?_
    refine st_if (eb_and (eb_test (ev_notN (d := oD o) (ev_var rfl h2))) fun no => eb_not (b := true) ?_) dj4 (fun q => by simp at q) fun _ G5 s5 dj5 => nt_of rfl (s4.trans s5) dj5 ⟨rfl, _, _, rfl⟩
    rw [isNon_oD] at no
    cases o with
    | none => cases no
    | some k =>
      refine eb_and (b := true) (c := true) (eb_B (ev_call (ea_one (ev_var rfl h2)) ⟨_, rfl, rfl⟩)) fun _ => eb_test (K := K) ?_
      have hin : some k ∈ [some g.1, some g.2] := by
        rcases at_ with q | q | q
        · cases q
        · rw [q]; simp
        · rw [q]; simp
      have := ev_inT (neg := false) (o := some k) (os := [some g.1, some g.2]) (K := K) (M := []) (ta := tVar 2) (tb := tVar 3) (σ := [some v0, some v1, some v2, some v3, none]) (G := G4) (ev_var rfl h2) (ev_var rfl h3)
      rw [if_neg (by decide), decide_eq_true hin] at this
      exact this
  · rintro σ1 G3 M3 s3 dj3 ⟨rfl, x2, x3, rfl⟩
    have h1 := h1.mono (s2.trans s3)
    refine s_setM (K := K) (ds := (tk.filterMap id).map nD) ?_ dj3 fun p xs G4 s4 hm dj4 hx => ?_
    · rw [← held_eq]
      exact evm_lcN tk oD Option.isSome oD (ei_tup (ev_var rfl h1)) (by omega) fun o ho D acc hD G1 x s dj hx => ⟨rfl, by
        have := eb_test (ev_notN (K := K) (M := (D, acc) :: []) (σ := ((wipe [some v0, some v1, x2, x3, none] [2]).set 2 (some x))) (ta := tVar 2) (G := G1) (ev_var rfl hx))
        rw [isNon_oD, Bool.not_not] at this
        exact this, fun _ => ev_var rfl hx⟩
    · have el : EvS K [(p, xs)] (tVar 4) [some v0, some v1, x2, x3, some (.ref p)] G4 ((tk.filterMap id).map nD) := (evl_var rfl (by rw [lk_cons, if_pos rfl]) hx).toS
      have hl2 : (tk.filterMap id).length ≤ 4000 := by
        have := List.length_filterMap_le id tk
        omega
      exact finM q (s2.trans (s3.trans s4)) dj4 (ev_eqI (ev_lenSetL el (held_nodup S) hl2) (ev_lenL el)).toJ (by simp)
/-! ### sure_taking(web, taking) -/
def R_sure_taking : List PyData → PyData → Prop := fun ds d => ∃ (n : Nat) (gs : Gs) (x : PyData) (T : List (Option Nat)), ds = [webD n gs, x] ∧ As 1 x (tD T) ∧ Sound gs T ∧ gs.length ≤ 1000 ∧ d = tD T
theorem sc_sure_taking : FnScope ["web", "taking", "own"] ["web", "taking"] (defScope s_sure_taking) := ⟨rfl, rfl, rfl, by decide +kernel, rfl, by decide +kernel, by decide +kernel⟩
theorem c_sure_taking (D : Dn K mg "sure_taking" s_sure_taking ["web", "taking"]) (k_tupled : Cal P w K mg base 2 "tupled" (Pr K (R_tupled 1))) (k_is_taking_in : Cal P w K mg base 2 "is_taking_in" (Pr K R_is_taking_in)) : Cal P w K mg base 3 "sure_taking" (Pr K R_sure_taking) := by
  refine D.pr sc_sure_taking (fun ds d h => by obtain ⟨n, g, x, p, rfl, _⟩ := h; rfl) (fun f cdv A outer s H E vs ds d hr h hv => ?_)
  obtain ⟨n, gs, x, tk, rfl, ⟨hx1, hx2⟩, S, hl, rfl⟩ := h
  obtain ⟨v0, v1, rfl, h0, h1⟩ := dp2 hv
  refine ⟨_, (pss_cons (ps_set (i := 2) sc_sure_taking.nd rfl (Or.inl rfl) (pe_ca k_tupled hr (by decide) rfl (pa_cons (pv 1) pa_nil)))
    (pss_cons (ps_if (pt_not (pt_val (pe_ca k_is_taking_in hr (by decide) rfl (pa_cons (pv 0) (pa_cons (pv 2) pa_nil)))))
      (pss_one ps_never)
      pss_nil)
    (pss_one (ps_ret (pv 2))))), fun Q q => ?_⟩
  refine s_set (ev_call (ea_one (ev_var rfl h1)) ⟨x, rfl, hx1, rfl⟩) (dj_nil _) fun v2 G1 s1 dj1 h2 => ?_
  rw [hx2] at h2
  exact s_ifF (eb_not (eb_B (ev_call (ea_two (ev_var rfl (h0.mono s1)) (ev_var rfl h2)) ⟨n, gs, tk, rfl, S, hl, rfl⟩))) dj1 rfl fun G2 s2 dj2 => fin q (s1.trans s2) (ev_var rfl (h2.mono s2))
/-! ### holders_in(taking) -/
def InjT (T : List (Option Nat)) : Prop := ∀ i j pl, T.getD i none = some pl → T.getD j none = some pl → i = j
theorem lt_getD {T : List (Option Nat)} {i pl : Nat} (h : T.getD i none = some pl) : i < T.length := by
  by_cases q : i < T.length
  · exact q
  · rw [List.getD_eq_getElem?_getD, List.getElem?_eq_none (by omega)] at h
    cases h
theorem Sound.injT {gs : Gs} {T : List (Option Nat)} (S : Sound gs T) : InjT T := fun i j pl hi hj => by
  have l := S.len
  have := lt_getD hi
  have := lt_getD hj
  exact S.inj i j pl (by omega) (by omega) hi hj
def HoldK (T : List (Option Nat)) (kh : List (Key × V)) : Prop := ∀ pl : Nat, valV kh (iK pl) = (hold T pl).map fun g => V.int ((g : Nat) : Int)
theorem hold_none {T : List (Option Nat)} {pl : Nat} (h : hold T pl = none) (g : Nat) : T.getD g none ≠ some pl := fun e => by
  have hg := lt_getD e
  unfold hold at h
  rw [List.idxOf?_eq_none_iff] at h
  refine h ?_
  rw [← e, List.getD_eq_getElem?_getD, List.getElem?_eq_getElem hg]
  exact List.getElem_mem hg
def spHold (K : PySem.W.Frag) : Sp := fun vs H Q _ => ∃ (v0 : V) (T : List (Option Nat)), vs = [v0] ∧ Dp K H v0 (tD T) ∧ InjT T ∧ T.length ≤ 1000 ∧ ∀ H' h kh, Same H H' → H' h = some (.dK kh) → HoldK T kh → Q (.ref h) H'
theorem sc_holders_in : FnScope ["taking", "guest", "place"] ["taking"] (defScope s_holders_in) := ⟨rfl, rfl, rfl, by decide +kernel, rfl, by decide +kernel, by decide +kernel⟩
theorem c_holders_in (T : Tx mg) (D : Dn K mg "holders_in" s_holders_in ["taking"]) : Cal P w K mg base 1 "holders_in" (spHold K) := by
  refine D.cal sc_holders_in (fun vs H Q E h => by obtain ⟨_, _, rfl, _⟩ := h; rfl) (fun f cdv A outer s H vs Q E hr h => ?_)
  obtain ⟨v0, tk, rfl, h0, inj, hl, q⟩ := h
  refine ⟨_, (pss_one (ps_ret (pe_dc (own := [("guest", 1), ("place", 2)]) rfl sc_holders_in.nd (wi_enumT K T (pv 0)) (blkOk_by (by rfl)) (fun _ _ _ _ _ => pg2 K rfl (pgs_cons (pg_name (i := 1) sc_holders_in.nd rfl (Or.inl rfl)) (pgs_cons (pg_name (i := 2) sc_holders_in.nd rfl (Or.inl rfl)) pgs_nil))) (fun _ _ _ _ _ => pts_one (pt_cmpR op_notN (pv 2) pe_non (nomark _))) (fun _ _ _ _ _ => pv 2) (fun _ _ _ _ _ => pv 1)))), ?_⟩
  have e0 := ei_enumT (K := K) (M := []) (te := tVar 0) (σ := start ["taking", "guest", "place"] [v0]) (G := H) (ds := tk.map oD) (ev_var rfl h0) H (Same.refl _) (dj_nil _)
  rw [jn_nil] at e0
  unfold tRet tDc
  refine e0 _ fun J G2 s2 dj2 it => ?_
  intro Dd hD
  have hlen : ((List.range (tk.map oD).length).map fun i => PyData.tuple [nD i, (tk.map oD).getD i .none]).length = tk.length := by rw [List.length_map, List.length_range, List.length_map]
  refine ⟨fun i m H1 => m = tk.length - i ∧ i ≤ tk.length ∧ Same G2 H1 ∧ ∃ kh, H1 Dd = some (.dK kh) ∧ kh.length ≤ i ∧ (∀ pl g, g < i → tk.getD g none = some pl → valV kh (iK pl) = some (.int (g : Nat))) ∧ (∀ pl, (∀ g, g < i → tk.getD g none ≠ some pl) → valV kh (iK pl) = none),
    ⟨tk.length, by simp, Nat.zero_le _, same_new hD, [], upd_same, Nat.le_refl _, fun _ _ h => by omega, fun _ _ => rfl⟩, ?_⟩
  rintro i m H1 ⟨rfl, hi, sH, kh, hd, lk, k1, k2⟩
  by_cases hlt : i < tk.length
  · refine .inr ⟨it.go i H1 [] (by rw [hlen]; exact hlt) sH (dj_nil _) trivial, fun H2 => i + 1 ≤ tk.length ∧ Same G2 H2 ∧ ∃ kh, H2 Dd = some (.dK kh) ∧ kh.length ≤ i + 1 ∧ (∀ pl g, g < i + 1 → tk.getD g none = some pl → valV kh (iK pl) = some (.int (g : Nat))) ∧ (∀ pl, (∀ g, g < i + 1 → tk.getD g none ≠ some pl) → valV kh (iK pl) = none), fun H2 z => ⟨tk.length - (i + 1), by omega, rfl, z⟩, fun x H2 y => ?_⟩
    obtain ⟨G4, d, rfl, s4, dj4, hd1, hd2⟩ := it.yld i H1 [] x H2 (by rw [hlen]; exact hlt) sH (dj_nil _) trivial y
    rw [List.getElem?_map, List.length_map, List.getElem?_range hlt] at hd1
    cases hd1
    have hD4 := s4 _ _ hd
    have eo : (tk.map oD).getD i .none = oD (tk.getD i none) := by
      rw [List.getD_eq_getElem?_getD, List.getD_eq_getElem?_getD, List.getElem?_map, List.getElem?_eq_getElem hlt]
      rfl
    refine g_two dj4 hd2 fun v1 v2 h1 h2 => ⟨rfl, ?_⟩
    cases h1
    rw [eo] at h2
    have h2 := dp_oD h2
    subst h2
    refine ⟨_, rfl, rfl, _, rfl, ?_⟩
    have sG : Same G2 G4 := sH.trans s4
    cases eT : tk.getD i none with
    | none =>
      refine iteF ⟨hlt, sG, kh, hD4, Nat.le_succ_of_le lk, fun pl g hg e => ?_, fun pl h => k2 pl fun g hg => h g (Nat.lt_succ_of_lt hg)⟩
      rcases Nat.lt_succ_iff_lt_or_eq.mp hg with hg | hg
      · exact k1 pl g hg e
      · rw [hg, eT] at e
        cases e
    | some pl0 =>
      refine iteT ⟨_, rfl, _, rfl, kh, iK pl0, rfl, hD4, Nat.lt_of_le_of_lt (by omega : kh.length ≤ 1000) (by decide), hlt, fun b o e => ?_, _, upd_same, ?_, fun pl g hg e => ?_, fun pl h => ?_⟩
      · have hb : b ≠ Dd := ne_of_none e (by rw [← jn_nil G2]; exact hD)
        rw [upd_ne hb]
        exact sG _ _ e
      · have := length_putK kh (iK pl0) (V.int ((i : Nat) : Int))
        omega
      · rw [valV_put]
        by_cases ep : pl = pl0
        · subst ep
          rw [if_pos rfl, inj g i pl e eT]
        · rw [if_neg (fun z => ep (iK_inj.mp z))]
          rcases Nat.lt_succ_iff_lt_or_eq.mp hg with hg | hg
          · exact k1 pl g hg e
          · rw [hg, eT] at e
            exact absurd (Option.some.inj e).symm ep
      · rw [valV_put, if_neg (fun z => h i (Nat.lt_succ_self i) (by rw [eT, iK_inj.mp z]))]
        exact k2 pl fun g hg => h g (Nat.lt_succ_of_lt hg)
  · have e : i = tk.length := by omega
    subst e
    have st := it.stop H1 [] sH (dj_nil _) trivial
    rw [hlen] at st
    refine .inl ⟨st, q H1 Dd kh (s2.trans sH) hd fun pl => ?_⟩
    cases eh : hold tk pl with
    | none => exact k2 pl fun g _ => hold_none eh g
    | some g =>
      obtain ⟨a1, a2⟩ := hold_some eh
      exact k1 pl g a2 a1
end
end Lw
/-! text D7 -/
set_option Elab.async false
set_option linter.all false
set_option maxRecDepth 100000
set_option maxHeartbeats 2000000
namespace Lw
open PySem PySem.Spec PyProof.Rows L2
/-! ### raw readings -/
def EvR (M : Mh) (te : TE) (σ : L2.St) (G : Hp) (Pp : V → Hp → Prop) : Prop := ∀ G1, Same G G1 → Dj G1 M → ∀ Q : VK, (∀ v G2, Same G1 G2 → Dj G2 M → Pp v G2 → Q v (jn G2 M)) → te σ (jn G1 M) Q
section
variable {K : PySem.W.Frag} {M : Mh} {σ : L2.St} {G G' : Hp} {ta tb tc te : TE} {t u : TT} {d e : PyData} {ds es : List PyData} {D : Ends} {us : TS} {i k j : Nat}
theorem Ev.toR (h : Ev K M te σ G d) : EvR M te σ G (fun v G2 => Dp K G2 v d) := h
theorem s_setR {Pp : V → Hp → Prop} (h : EvR M te σ G Pp) (dj : Dj G M) (q : ∀ v G2, Same G G2 → Dj G2 M → Pp v G2 → us D (σ.set k (some v)) (jn G2 M)) : tSeq (tAsg te (gName k)) us D σ (jn G M) := h G (Same.refl _) dj _ fun v G2 s dj2 hv => q v G2 s dj2 hv
/-- a, b = (e, []) -/
theorem s_two {Pp : V → Hp → Prop} (h : EvR M te σ G Pp) (mono : ∀ v G1 G2, Same G1 G2 → Pp v G1 → Pp v G2) (dj : Dj G M) (q : ∀ v p G2, Same G G2 → M.lookup p = none → Dj G2 ((p, []) :: M) → Pp v G2 → us D ((σ.set i (some v)).set k (some (.ref p))) (jn G2 ((p, []) :: M))) :
    tSeq (tAsg (tTup (tCons te (tCons (tLst tNil) tNil))) (gTup K 2 (gCons (gName i) (gCons (gName k) gNil)))) us D σ (jn G M) := h G (Same.refl _) dj _ fun v G2 s2 dj2 hv => by
  refine ⟨by decide, fun p hp => ?_⟩
  have n := jn_none hp
  rw [jn_put]
  refine ⟨by show 2 ≤ sizeLine; decide, fun t ht => ?_⟩
  have n2 := jn_none ht
  rw [jn_new ht]
  exact ⟨t, _, rfl, .of (by rw [jn_out n2.1, upd_same]), rfl, _, _, rfl, _, _, rfl, rfl, q v p _ (s2.trans (same_new n2.2)) n.1 (dj_new (dj_put dj2 n.2) ht) (mono _ _ _ (same_new n2.2) hv)⟩
/-- a, b, c = (e, [], f), f a new list -/
theorem s_three {Pp : V → Hp → Prop} (h : EvR M te σ G Pp) (mono : ∀ v G1 G2, Same G1 G2 → Pp v G1 → Pp v G2) (dj : Dj G M) (h3 : ∀ p G2, Same G G2 → EvM K ((p, []) :: M) tc σ G2 ds) (q : ∀ v p r zs G2, Same G G2 → M.lookup p = none → ((p, []) :: M : Mh).lookup r = none → Dj G2 ((r, zs) :: (p, []) :: M) → Pp v G2 → DpAll K G2 zs ds → us D (((σ.set i (some v)).set k (some (.ref p))).set j (some (.ref r))) (jn G2 ((r, zs) :: (p, []) :: M))) :
    tSeq (tAsg (tTup (tCons te (tCons (tLst tNil) (tCons tc tNil)))) (gTup K 3 (gCons (gName i) (gCons (gName k) (gCons (gName j) gNil))))) us D σ (jn G M) := h G (Same.refl _) dj _ fun v G2 s2 dj2 hv => by
  refine ⟨by decide, fun p hp => ?_⟩
  have n := jn_none hp
  rw [jn_put]
  refine h3 p G2 s2 G2 (Same.refl _) (dj_put dj2 n.2) _ fun r zs G3 s3 hr dj3 hz => ?_
  refine ⟨by show 3 ≤ sizeLine; decide, fun t ht => ?_⟩
  have n2 := jn_none ht
  rw [jn_new ht]
  exact ⟨t, _, rfl, .of (by rw [jn_out n2.1, upd_same]), rfl, _, _, rfl, _, _, rfl, _, _, rfl, rfl, q v p r zs _ (s2.trans (s3.trans (same_new n2.2))) n.1 hr (dj_new dj3 ht) (mono _ _ _ (s3.trans (same_new n2.2)) hv) (hz.mono (same_new n2.2))⟩
theorem jn_swap {G : Hp} {M : Mh} {a b : Addr} {xs ys : List V} (h : a ≠ b) : jn G ((a, xs) :: (b, ys) :: M) = jn G ((b, ys) :: (a, xs) :: M) := by
  funext c
  unfold jn
  rw [lk_cons, lk_cons, lk_cons, lk_cons]
  by_cases e1 : c = a
  · have : c ≠ b := fun q => h (e1.symm.trans q)
    simp [e1, this, h]
  · by_cases e2 : c = b
    · rw [if_neg e1, if_pos e2, if_pos e2]
    · rw [if_neg e1, if_neg e2, if_neg e2, if_neg e1]
theorem dj_swap {G : Hp} {M : Mh} {a b : Addr} {xs ys : List V} (h : a ≠ b) (d : Dj G ((a, xs) :: (b, ys) :: M)) : Dj G ((b, ys) :: (a, xs) :: M) := fun c zs e => by
  rw [lk_cons, lk_cons] at e
  by_cases e1 : c = a
  · subst e1
    exact d c xs (by rw [lk_cons, if_pos rfl])
  · by_cases e2 : c = b
    · subst e2
      exact d c ys (by rw [lk_cons, if_neg e1, lk_cons, if_pos rfl])
    · rw [if_neg e2, if_neg e1] at e
      exact d c zs (by rw [lk_cons, if_neg e1, lk_cons, if_neg e2]; exact e)
theorem lk_here {a : Addr} {xs : List V} {M : Mh} : ((a, xs) :: M : Mh).lookup a = some xs := by rw [lk_cons, if_pos rfl]
theorem lk_there {a b : Addr} {xs ys : List V} {M : Mh} (h : M.lookup b = some ys) (ha : M.lookup a = none) : ((a, xs) :: M : Mh).lookup b = some ys := by
  rw [lk_cons, if_neg (fun e => by rw [e, ha] at h; cases h)]
  exact h
theorem lk_ne {a b : Addr} {xs : List V} {M : Mh} (h : ((a, xs) :: M : Mh).lookup b = none) : b ≠ a := fun e => by
  rw [e, lk_here] at h
  cases h
end
section
variable {P : Program} {w : World} {K : PySem.W.Frag} {mg : Str → Option Value} {base : Heap}
/-- the holders -/
def HoldP (T : List (Option Nat)) (v : V) (G : Hp) : Prop := ∃ h kh, v = .ref h ∧ G h = some (.dK kh) ∧ HoldK T kh
theorem HoldP.mono (T : List (Option Nat)) (v : V) (G1 G2 : Hp) (s : Same G1 G2) (h : HoldP T v G1) : HoldP T v G2 := by
  obtain ⟨a, kh, e, h1, h2⟩ := h
  exact ⟨a, kh, e, s _ _ h1, h2⟩
theorem evr_hold {M : Mh} {σ : L2.St} {G : Hp} {te : TE} {E : XK} {T : List (Option Nat)} (h : Ev K M te σ G (tD T)) (inj : InjT T) (hl : T.length ≤ 1000) : EvR M (tCall (fr_ (spHold K)) [] E (tCons te tNil)) σ G (HoldP T) := fun G1 s dj Q q =>
  h G1 s dj _ fun v G2 s2 dj2 hv => ⟨G2, M, rfl, dj2, v, T, rfl, hv, inj, hl, fun H' a kh s3 h1 h2 dj3 => q _ H' (s2.trans s3) dj3 ⟨a, kh, rfl, h1, h2⟩⟩
/-! ### asked_in(web, taking, guest) -/
def R_asked_in : List PyData → PyData → Prop := fun ds d => ∃ (n : Nat) (gs : Gs) (T : List (Option Nat)) (g : Nat), ds = [webD n gs, tD T, nD g] ∧ g < gs.length ∧ T.length = gs.length ∧ d = .tuple ((asked gs T g).map nD)
theorem sc_asked_in : FnScope ["web", "taking", "guest", "wanted", "other"] ["web", "taking", "guest"] (defScope s_asked_in) := ⟨rfl, rfl, rfl, by decide +kernel, rfl, by decide +kernel, by decide +kernel⟩
theorem t_at {T : List (Option Nat)} {g : Nat} (h : g < T.length) : atI (T.map oD) ((g : Nat) : Int) = some (oD (T.getD g none)) := by
  refine atI_nat (map_at ?_)
  rw [List.getD_eq_getElem?_getD, List.getElem?_eq_getElem h]
  rfl
theorem sh_o (o : Option Nat) : SeqAt.shaped (oD o) = true := (lv_o 0 o).shaped
theorem c_asked_in (D : Dn K mg "asked_in" s_asked_in ["web", "taking", "guest"]) : Cal P w K mg base 1 "asked_in" (Pr K R_asked_in) := by
  refine D.pr sc_asked_in (fun ds d h => by obtain ⟨n, g, x, p, rfl, _⟩ := h; rfl) (fun f cdv A outer s H E vs ds d hr h hv => ?_)
  obtain ⟨n, gs, tk, g, rfl, hg, hl, rfl⟩ := h
  obtain ⟨v0, v1, v2, rfl, h0, h1, h2⟩ := dp3 hv
  refine ⟨_, (pss_cons (ps_asg (xT K (xT K (pv 0) pe_int) (pv 2)) (pg2 K rfl (pgs_cons (pg_name (i := 3) sc_asked_in.nd rfl (Or.inl rfl)) (pgs_cons (pg_name (i := 4) sc_asked_in.nd rfl (Or.inl rfl)) pgs_nil))))
    (pss_cons (ps_if (pt_eqD K (hu64 hr) (xT K (pv 1) (pv 2)) (pv 3))
      (pss_one (ps_ret (pe_tup pa_nil)))
      pss_nil)
    (pss_one (ps_ret (pe_ifExp (pt_eqD K (hu64 hr) (xT K (pv 1) (pv 2)) (pv 4)) (pe_tup (pa_cons (pv 3) pa_nil)) (pe_tup (pa_cons (pv 3) (pa_cons (pv 4) pa_nil)))))))), fun Q q => ?_⟩
  have e := ev_ixT (K := K) (M := []) (σ := start ["web", "taking", "guest", "wanted", "other"] [v0, v1, v2]) (ta := tOp (rIxT K) (tVar 0) (tC (.int 1))) (tb := tVar 2) (G := H) (ev_ixT (d := .tuple (gs.map gD)) (ev_var rfl h0) ev_int rfl) (ev_var rfl h2) (web_guest hg)
  refine e H (Same.refl _) (dj_nil _) _ fun v G2 s2 dj2 hv => g_two (M := []) dj2 hv fun v3 v4 h3 h4 => ?_
  have h1 := h1.mono s2
  have h2 := h2.mono s2
  have ix : ∀ σ : L2.St, σ[1]? = some (some v1) → σ[2]? = some (some v2) → ∀ G3, Same G2 G3 → Ev K [] (tOp (rIxT K) (tVar 1) (tVar 2)) σ G3 (oD (tk.getD g none)) := fun σ e1 e2 G3 s3 => ev_ixT (ev_var e1 (h1.mono s3)) (ev_var e2 (h2.mono s3)) (t_at (by omega))
  unfold asked at q
  refine s_if (eb_test (ev_eqD (e := oD (some (gs.getD g (0, 0)).1)) (ix _ rfl rfl G2 (Same.refl _)).toJ (ev_var rfl h3).toJ (sh_o _) (sh_o _))) dj2 (fun b G3 s3 dj3 => ?_) (fun b G3 s3 dj3 => ?_)
  · rw [eqv_oD, decide_eq_true_eq] at b
    rw [if_pos b] at q
    exact fin q (s2.trans s3) (ev_tup ea_nil)
  · rw [eqv_oD, decide_eq_false_iff_not] at b
    rw [if_neg b] at q
    refine fin (e := .tuple ((if tk.getD g none = some (gs.getD g (0, 0)).2 then [(gs.getD g (0, 0)).1] else [(gs.getD g (0, 0)).1, (gs.getD g (0, 0)).2]).map nD)) q (s2.trans s3) (ev_if (eb_test (ev_eqD (e := oD (some (gs.getD g (0, 0)).2)) (ix _ rfl rfl G3 s3).toJ (ev_var rfl (h4.mono s3)).toJ (sh_o _) (sh_o _))) (fun b => ?_) (fun b => ?_))
    · rw [eqv_oD, decide_eq_true_eq] at b
      rw [if_pos b]
      exact ev_tup (ea_one (ev_var rfl (h3.mono s3))) (by show 1 ≤ 100000; decide)
    · rw [eqv_oD, decide_eq_false_iff_not] at b
      rw [if_neg b]
      exact ev_tup (ea_two (ev_var rfl (h3.mono s3)) (ev_var rfl (h4.mono s3))) (by show 2 ≤ 100000; decide)
/-! ### arrows_in(web, taking) -/
def ars (gs : Gs) (T : List (Option Nat)) (n : Nat) : List (Nat × Nat) := (List.range n).flatMap fun g => (ahead gs T g).map fun f => (f, g)
def arS (gs : Gs) (T : List (Option Nat)) : List (Nat × Nat) := srtP (ars gs T gs.length)
theorem ars_succ (gs : Gs) (T : List (Option Nat)) (n : Nat) : ars gs T (n + 1) = ars gs T n ++ (ahead gs T n).map fun f => (f, n) := by
  unfold ars
  rw [List.range_succ, List.flatMap_append, List.flatMap_cons, List.flatMap_nil, List.append_nil]
theorem asked_len (gs : Gs) (T : List (Option Nat)) (g : Nat) : (asked gs T g).length ≤ 2 := by
  unfold asked
  split
  · exact Nat.zero_le _
  · split
    · exact Nat.le_succ _
    · exact Nat.le_refl _
theorem ahead_len (gs : Gs) (T : List (Option Nat)) (g : Nat) : (ahead gs T g).length ≤ 2 := Nat.le_trans (List.length_filterMap_le _ _) (asked_len gs T g)
theorem ars_len (gs : Gs) (T : List (Option Nat)) : ∀ n, (ars gs T n).length ≤ 2 * n
  | 0 => Nat.le_refl _
  | n + 1 => by
    have h1 := ars_len gs T n
    have h2 := ahead_len gs T n
    rw [ars_succ, List.length_append, List.length_map]
    omega
theorem arS_len (gs : Gs) (T : List (Option Nat)) : (arS gs T).length ≤ 2 * gs.length := by
  rw [show (arS gs T).length = (ars gs T gs.length).length from (srtP_perm _).length_eq]
  exact ars_len gs T _
theorem mem_arS {gs : Gs} {T : List (Option Nat)} {p : Nat × Nat} : p ∈ arS gs T ↔ p.2 < gs.length ∧ p.1 ∈ ahead gs T p.2 := by
  rw [show p ∈ arS gs T ↔ p ∈ ars gs T gs.length from (srtP_perm _).mem_iff]
  unfold ars
  rw [List.mem_flatMap]
  constructor
  · rintro ⟨g, hg, h⟩
    obtain ⟨f, hf, rfl⟩ := List.mem_map.mp h
    exact ⟨List.mem_range.mp hg, hf⟩
  · rintro ⟨h1, h2⟩
    exact ⟨p.2, List.mem_range.mpr h1, List.mem_map.mpr ⟨p.1, h2, rfl⟩⟩
theorem ahead_map {T : List (Option Nat)} (g : Nat) : ∀ l : List Nat, (l.filter fun pl => (hold T pl).isSome).map (fun pl => gD ((hold T pl).getD 0, g)) = ((l.filterMap (hold T)).map fun f => (f, g)).map gD
  | [] => rfl
  | a :: l => by
    cases e : hold T a with
    | none => rw [List.filter_cons_of_neg (by rw [e]; decide), List.filterMap_cons_none e, ahead_map g l]
    | some f =>
      rw [List.filter_cons_of_pos (by rw [e]; rfl), List.filterMap_cons_some e, List.map_cons, List.map_cons, List.map_cons, ahead_map g l, e]
      rfl
def R_arrows_in : List PyData → PyData → Prop := fun ds d => ∃ (n : Nat) (gs : Gs) (T : List (Option Nat)), ds = [webD n gs, tD T] ∧ T.length = gs.length ∧ InjT T ∧ gs.length ≤ 1000 ∧ d = .list ((arS gs T).map gD)
theorem sc_arrows_in : FnScope ["web", "taking", "holders", "found", "guest", "place"] ["web", "taking"] (defScope s_arrows_in) := ⟨rfl, rfl, rfl, by decide +kernel, rfl, by decide +kernel, by decide +kernel⟩
theorem c_arrows_in (T : Tx mg) (D : Dn K mg "arrows_in" s_arrows_in ["web", "taking"]) (k_holders_in : Cal P w K mg base 1 "holders_in" (spHold K)) (k_asked_in : Cal P w K mg base 1 "asked_in" (Pr K R_asked_in)) : Cal P w K mg base 2 "arrows_in" (Pr K R_arrows_in) := by
  refine D.pr sc_arrows_in (fun ds d h => by obtain ⟨n, g, x, rfl, _⟩ := h; rfl) (fun f cdv A outer s H E vs ds d hr h hv => ?_)
  obtain ⟨n, gs, tk, rfl, hl, inj, hm, rfl⟩ := h
  obtain ⟨v0, v1, rfl, h0, h1⟩ := dp2 hv
  refine ⟨_, (pss_cons (ps_asg (pe_tup (pa_cons (pe_ca k_holders_in hr (by decide) rfl (pa_cons (pv 1) pa_nil)) (pa_cons (pe_lst pa_nil) pa_nil))) (pg2 K rfl (pgs_cons (pg_name (i := 2) sc_arrows_in.nd rfl (Or.inr rfl)) (pgs_cons (pg_name (i := 3) sc_arrows_in.nd rfl (Or.inl rfl)) pgs_nil))))
    (pss_cons (ps_for PassesOwn.never rfl (pi_range1 (by rfl) T.range_ (pa_cons (pe_len K T (pv 1)) pa_nil)) (pg_name (i := 4) sc_arrows_in.nd rfl (Or.inr rfl))
      (pss_one (ps_expr (pe_bm PySem.F.plainAttrs_list PySem.F.slot_list_extend PySem.F.type_list_extend mt_extend (pv 3) (pa_cons (lcF 5 sc_arrows_in.nd (wi_tup K (pe_ca k_asked_in hr (by decide) rfl (pa_cons (pv 0) (pa_cons (pv 1) (pa_cons (pv 4) pa_nil))))) (fun _ _ _ _ _ => (pt_cmp (pc_din (hu_of hr) (pv 5) (pv 2)) rfl)) (fun _ _ _ _ _ => (pe_tup (pa_cons (pe_dget (hu_of hr) (pv 2) (pv 5) (fun _ _ => rfl)) (pa_cons (pv 4) pa_nil))))) pa_nil)))))
    (pss_one (ps_ret (pe_sortedP K T (pv 3)))))), fun Q q => ?_⟩
  refine s_two (evr_hold (ev_var rfl h1) inj (by omega)) (HoldP.mono tk) (dj_nil _) fun v2 p G2 s2 hp dj2 hh => ?_
  obtain ⟨ha, kh, rfl, hG, hK⟩ := hh
  have h0 := h0.mono s2
  have h1 := h1.mono s2
  refine s_for (ei_rngD (ev_lenT (ev_var rfl h1)) (by rw [List.length_map]; omega)) (fun i σ1 G1 M1 => ∃ x xs, σ1 = [some v0, some v1, some (.ref ha), some (.ref p), x, none] ∧ M1 = [(p, xs)] ∧ DpAll K G1 xs ((ars gs tk i).map gD)) dj2 (fun _ _ _ => ⟨none, [], rfl, rfl, .nil⟩) ?_ ?_ ?_
  · rintro i σ1 G3 G4 M3 s4 ⟨x, xs, e1, e2, e3⟩
    exact ⟨x, xs, e1, e2, e3.mono s4⟩
  · rintro G3 s3 i d σ1 G4 M3 x hd s4 dj4 ⟨x4, xs, rfl, rfl, hx⟩ hv
    rw [List.length_map, List.getElem?_map] at hd
    have hi : i < tk.length := by
      by_cases q : i < tk.length
      · exact q
      · rw [List.getElem?_eq_none (by rw [List.length_range]; omega)] at hd
        cases hd
    rw [List.getElem?_range hi] at hd
    cases hd
    have h0 := h0.mono (s3.trans s4)
    have h1 := h1.mono (s3.trans s4)
    have hG := s4 _ _ (s3 _ _ hG)
    refine s_extend rfl (EvM.toL (ds := ((asked gs tk i).filter fun pl => (hold tk pl).isSome).map (fun pl => gD ((hold tk pl).getD 0, i))) (evm_lcN (asked gs tk i) nD _ _ (ei_tup (ev_call (ea_cons (ev_var rfl h0) (ea_two (ev_var rfl h1) (ev_var rfl hv))) ⟨n, gs, tk, i, rfl, by omega, hl, rfl⟩)) (by have := asked_len gs tk i; omega) fun pl hpl Da acc hDa G1 y s5 dj5 hy => ⟨rfl, ?_, fun hs => ?_⟩)) ?_ dj4 fun zs G5 s5 dj5 hz => ?_
    · have := eb_B (ev_din (K := K) (M := (Da, acc) :: [(p, xs)]) (σ := ((wipe [some v0, some v1, some (.ref ha), some (.ref p), some x, none] [5]).set 5 (some y))) (i := 2) (ty := tVar 5) rfl (s5 _ _ hG) (ev_var rfl hy))
      rw [hK pl, Option.isSome_map] at this
      exact this
    · have e := hK pl
      cases eh : hold tk pl with
      | none => rw [eh] at hs; cases hs
      | some fh =>
        rw [eh] at e
        exact ev_tup (ea_two (ev_dgetK rfl (s5 _ _ hG) (ev_var rfl hy) e (.int _)) (ev_var rfl (hv.mono s5))) (by show 2 ≤ 100000; decide)
    · have l1 := hx.len
      have l2 := ars_len gs tk i
      have l3 := asked_len gs tk i
      have l4 := List.length_filter_le (fun pl => (hold tk pl).isSome) (asked gs tk i)
      rw [List.length_map] at l1
      rw [List.length_map]
      omega
    · refine nd_of rfl (s4.trans s5) dj5 ⟨_, _, rfl, rfl, ?_⟩
      rw [ars_succ, List.map_append]
      unfold ahead
      rw [← ahead_map]
      exact (hx.mono s5).app hz
  · rintro σ1 G3 M3 s3 dj3 ⟨x4, xs, rfl, rfl, hx⟩
    rw [List.length_map, List.length_range, List.length_map, hl] at hx
    exact finM q (s2.trans s3) dj3 (evm_sortedP (evl_var rfl lk_here hx).toS).toE.toJ
/-! ### lacking_in(web, taking) -/
def R_lacking_in : List PyData → PyData → Prop := fun ds d => ∃ (n : Nat) (gs : Gs) (T : List (Option Nat)), ds = [webD n gs, tD T] ∧ Sound gs T ∧ gs.length ≤ 1000 ∧ d = .list []
theorem sc_lacking_in : FnScope ["web", "taking", "holders", "guest", "own"] ["web", "taking"] (defScope s_lacking_in) := ⟨rfl, rfl, rfl, by decide +kernel, rfl, by decide +kernel, by decide +kernel⟩
theorem c_lacking_in (T : Tx mg) (D : Dn K mg "lacking_in" s_lacking_in ["web", "taking"]) (k_holders_in : Cal P w K mg base 1 "holders_in" (spHold K)) (k_asked_in : Cal P w K mg base 1 "asked_in" (Pr K R_asked_in)) : Cal P w K mg base 2 "lacking_in" (Pr K R_lacking_in) := by
  refine D.pr sc_lacking_in (fun ds d h => by obtain ⟨n, g, x, rfl, _⟩ := h; rfl) (fun f cdv A outer s H E vs ds d hr h hv => ?_)
  obtain ⟨n, gs, tk, rfl, S, hm, rfl⟩ := h
  obtain ⟨v0, v1, rfl, h0, h1⟩ := dp2 hv
  have hl := S.len
  refine ⟨_, (pss_cons (ps_set (i := 2) sc_lacking_in.nd rfl (Or.inr rfl) (pe_ca k_holders_in hr (by decide) rfl (pa_cons (pv 1) pa_nil)))
    (pss_one (ps_ret (lcF 3 sc_lacking_in.nd (pi_range1 (by rfl) T.range_ (pa_cons (pe_len K T (pv 1)) pa_nil)) (fun _ _ _ _ _ => (pt_val (pe_any K T rfl (lcA 4 sc_lacking_in.nd (wi_tup K (pe_ca k_asked_in hr (by decide) rfl (pa_cons (pv 0) (pa_cons (pv 1) (pa_cons (pv 3) pa_nil))))) (fun _ _ _ _ _ => (pe_cmp (pc_dnotin (hu_of hr) (pv 4) (pv 2)) rfl)))))) (fun _ _ _ _ _ => (pv 3)))))), fun Q q => ?_⟩
  refine s_setR (evr_hold (ev_var rfl h1) S.injT (by omega)) (dj_nil _) fun v2 G2 s2 dj2 hh => ?_
  obtain ⟨ha, kh, rfl, hG, hK⟩ := hh
  have h0 := h0.mono s2
  have h1 := h1.mono s2
  refine fin (e := .list (((List.range tk.length).filter fun _ => false).map nD)) q s2 (evm_lcN (List.range tk.length) nD (fun _ => false) nD (by
    have := ei_rngD (K := K) (M := []) (σ := [some v0, some v1, some (.ref ha), none, none]) (te := tCB (rLenQ K) (tCons (tVar 1) tNil)) (ev_lenT (ev_var rfl h1)) (by rw [List.length_map]; omega)
    rw [List.length_map] at this
    exact this) (by rw [List.length_range]; omega) fun i hi Da acc hDa G1 x s3 dj3 hx => ⟨rfl, ?_, fun z => nomatch z⟩).toE ?_
  · have hi := List.mem_range.mp hi
    have h0 := h0.mono s3
    have h1 := h1.mono s3
    have hG := s3 _ _ hG
    have ea : ((asked gs tk i).map fun _ => false).any id = false := by simp
    rw [← ea]
    refine eb_B (ev_any (EvM.toE ?_).toS)
    rw [List.map_map]
    refine evm_lcA (asked gs tk i) nD (fun _ => .bool false) (ei_tup (ev_call (ea_cons (ev_var rfl h0) (ea_two (ev_var rfl h1) (ev_var rfl hx))) ⟨n, gs, tk, i, rfl, by omega, hl, rfl⟩)) (by have := asked_len gs tk i; omega) fun pl hpl Db acb hDb G4 y s4 dj4 hy => ⟨rfl, ?_⟩
    have hs : (hold tk pl).isSome = true := by
      obtain ⟨f, f1, f2⟩ := S.has i (by omega) pl hpl
      rw [S.hold f1 f2]
      rfl
    have := ev_dnotin (K := K) (M := (Db, acb) :: (Da, acc) :: []) (σ := ((wipe ((wipe [some v0, some v1, some (.ref ha), none, none] [3]).set 3 (some x)) [4]).set 4 (some y))) (i := 2) (ty := tVar 4) rfl (s4 _ _ hG) (ev_var rfl hy)
    rw [hK pl, Option.isSome_map, hs] at this
    exact this
  · rw [List.filter_eq_nil_iff.mpr (fun _ _ => by decide)]
    rfl
end
end Lw
/-! text D8 -/
set_option Elab.async false
set_option linter.all false
set_option maxRecDepth 100000
set_option maxHeartbeats 2000000
namespace Lw
open PySem PySem.Spec PyProof.Rows L2
/-! ### who comes first, by the arrows -/
def arF (gs : Gs) (T : List (Option Nat)) : List (List Nat) := (List.range gs.length).map fun g => ((arS gs T).filter fun a => decide (a.2 = g)).map (·.1)
theorem arF_at {gs : Gs} {T : List (Option Nat)} {g : Nat} (h : g < gs.length) : fOf (arF gs T) g = ((arS gs T).filter fun a => decide (a.2 = g)).map (·.1) := by
  unfold fOf arF
  rw [List.getD_eq_getElem?_getD, List.getElem?_map, List.getElem?_range h]
  rfl
theorem arF_ok (gs : Gs) (T : List (Option Nat)) : FsOk gs T (arF gs T) := by
  refine ⟨by unfold arF; rw [List.length_map, List.length_range], fun g hg f => ?_⟩
  rw [show (arF gs T).getD g [] = fOf (arF gs T) g from rfl, arF_at hg, List.mem_map]
  constructor
  · rintro ⟨a, ha, rfl⟩
    rw [List.mem_filter, decide_eq_true_eq] at ha
    have := mem_arS.mp ha.1
    rw [ha.2] at this
    exact this.2
  · intro hf
    exact ⟨(f, g), List.mem_filter.mpr ⟨mem_arS.mpr ⟨hg, hf⟩, by simp⟩, rfl⟩
/-- those that are not barred -/
theorem free_eq {gs : Gs} {T : List (Option Nat)} {left : List Nat} (hl : ∀ g ∈ left, g < gs.length) : (left.filter fun g => !decide (g ∈ ((arS gs T).filter fun a => decide (a.1 ∈ left)).map (·.2))) = fr (fOf (arF gs T)) left := by
  unfold fr
  refine List.filter_congr fun g hg => ?_
  rw [arF_at (hl g hg)]
  congr 1
  rw [Bool.eq_iff_iff, decide_eq_true_eq, List.any_eq_true]
  constructor
  · intro h
    obtain ⟨a, ha, e⟩ := List.mem_map.mp h
    rw [List.mem_filter, decide_eq_true_eq] at ha
    exact ⟨a.1, List.mem_map.mpr ⟨a, List.mem_filter.mpr ⟨ha.1, by simp [e]⟩, rfl⟩, by simp [ha.2]⟩
  · rintro ⟨x, hx, hxl⟩
    obtain ⟨a, ha, rfl⟩ := List.mem_map.mp hx
    rw [List.mem_filter, decide_eq_true_eq] at ha
    rw [decide_eq_true_eq] at hxl
    exact List.mem_map.mpr ⟨a, List.mem_filter.mpr ⟨ha.1, by simp [hxl]⟩, ha.2⟩
theorem cands_full {m : Nat} {w : List Nat} (nd : w.Nodup) (lt : ∀ k ∈ w, k < m) (hl : w.length = m) : cands m w = [] := by
  unfold cands
  refine List.filter_eq_nil_iff.mpr fun k hk q => ?_
  have hk := List.mem_range.mp hk
  have hw : k ∉ w := by simpa using q
  have := List.Nodup.length_le_of_subset (l₁ := k :: w) (l₂ := List.range m) (List.nodup_cons.mpr ⟨hw, nd⟩) fun x hx => by
    rcases List.mem_cons.mp hx with rfl | hx
    · exact List.mem_range.mpr hk
    · exact List.mem_range.mpr (lt x hx)
  rw [List.length_cons, List.length_range] at this
  omega
theorem cands_nil (m : Nat) : cands m [] = List.range m := List.filter_eq_self.mpr fun _ _ => rfl
theorem atI_head {α : Type} (a : α) (l : List α) : atI (a :: l) 0 = some a := atI_nat (i := 0) rfl
abbrev iV (k : Nat) : V := V.int ((k : Nat) : Int)
theorem dp_iV {K : PySem.W.Frag} {H : Hp} (l : List Nat) : DpAll K H (l.map iV) (l.map nD) := by
  rw [nat_map, show (iV : Nat → V) = V.int ∘ (fun k : Nat => ((k : Nat) : Int)) from rfl, ← List.map_map]
  exact dpall_ints _
theorem dp_iV' {K : PySem.W.Frag} {H : Hp} {xs : List V} {l : List Nat} (h : DpAll K H xs (l.map nD)) : xs = l.map iV := by
  rw [nat_map] at h
  rw [h.ints, List.map_map]
  rfl
section
variable {K : PySem.W.Frag} {M : Mh} {σ : L2.St} {G : Hp}
theorem sh_l {p : List Nat} (h : p.length ≤ 1000) : SeqAt.shaped (lD p) = true := Lv.shaped (n := 1) (lv_lst (by rw [List.length_map]; exact h) fun x hx => by
  obtain ⟨n, _, rfl⟩ := List.mem_map.mp hx
  exact lv_n 0 n)
theorem sh_r {p : List Nat} (h : p.length ≤ 1000) : SeqAt.shaped (rD p) = true := (lv_r h).shaped
theorem sh_t {p : List (Option Nat)} (h : p.length ≤ 1000) : SeqAt.shaped (tD p) = true := (lv_t h).shaped
/-- xs == [], xs != [] -/
theorem eb_neL {te : TE} {l : List Nat} (h : EvJ K M te σ G (lD l)) (hl : l.length ≤ 1000) : EvB M (tTest (tOp (rNeD K) te (tLst tNil))) σ G (!decide (l = [])) := by
  have := eb_test (ev_neD h (EvM.toE (evm_lst ea_nil)).toJ (sh_l hl) (sh_l (p := []) (by decide)))
  rw [show (PyData.list []) = lD [] from rfl, eqv_lD] at this
  exact this
theorem eb_eqL {te : TE} {l : List Nat} (h : EvJ K M te σ G (lD l)) (hl : l.length ≤ 1000) : EvB M (tTest (tOp (rEqD K) te (tLst tNil))) σ G (decide (l = [])) := by
  have := eb_test (ev_eqD h (EvM.toE (evm_lst ea_nil)).toJ (sh_l hl) (sh_l (p := []) (by decide)))
  rw [show (PyData.list []) = lD [] from rfl, eqv_lD] at this
  exact this
end
section
variable {P : Program} {w : World} {K : PySem.W.Frag} {mg : Str → Option Value} {base : Heap}
/-! ### order_in(web, taking) -/
/-- a taking that is the outcome of an order -/
structure Tk (gs : Gs) (T : List (Option Nat)) : Prop where
  ex : ∃ p, PermOf gs.length p ∧ outc gs p = T
  le : gs.length ≤ 1000
theorem Tk.sound {gs : Gs} {T : List (Option Nat)} (h : Tk gs T) : Sound gs T := by
  obtain ⟨p, h1, h2⟩ := h.ex
  rw [← h2]
  exact sound_outc h1
theorem Tk.going {gs : Gs} {T : List (Option Nat)} (h : Tk gs T) : Going gs.length (fOf (arF gs T)) := by
  obtain ⟨p, h1, h2⟩ := h.ex
  exact Lw.going (arF_ok gs T) h1 h2
def R_order_in : List PyData → PyData → Prop := fun ds d => ∃ (n : Nat) (gs : Gs) (T : List (Option Nat)), ds = [webD n gs, tD T] ∧ Tk gs T ∧ d = rD (gone (fOf (arF gs T)) true gs.length (List.range gs.length))
theorem sc_order_in : FnScope ["web", "taking", "arrows", "found", "left", "barred", "free", "first", "later", "guest"] ["web", "taking"] (defScope s_order_in) := ⟨rfl, rfl, rfl, by decide +kernel, rfl, by decide +kernel, by decide +kernel⟩
theorem c_order_in (T : Tx mg) (D : Dn K mg "order_in" s_order_in ["web", "taking"]) (k_arrows_in : Cal P w K mg base 2 "arrows_in" (Pr K R_arrows_in)) : Cal P w K mg base 3 "order_in" (Pr K R_order_in) := by
  refine D.pr sc_order_in (fun ds d h => by obtain ⟨n, g, x, rfl, _⟩ := h; rfl) (fun f cdv A outer s H E vs ds d hr h hv => ?_)
  obtain ⟨n, gs, tk, rfl, ok, rfl⟩ := h
  obtain ⟨v0, v1, rfl, h0, h1⟩ := dp2 hv
  have S := ok.sound
  have gg := ok.going
  have hl := S.len
  have hm := ok.le
  have hN := sc_order_in.nd
  refine ⟨_, (pss_cons (ps_asg (pe_tup (pa_cons (pe_ca k_arrows_in hr (by decide) rfl (pa_cons (pv 0) (pa_cons (pv 1) pa_nil))) (pa_cons (pe_lst pa_nil) (pa_cons (pe_listRg rfl (by rfl) T.list_ (prg_1 (by rfl) T.range_ (pe_len K T (pv 1)))) pa_nil)))) (pg3 K rfl (pgs_cons (pg_name (i := 2) sc_order_in.nd rfl (Or.inl rfl)) (pgs_cons (pg_name (i := 3) sc_order_in.nd rfl (Or.inl rfl)) (pgs_cons (pg_name (i := 4) sc_order_in.nd rfl (Or.inr rfl)) pgs_nil)))))
    (pss_cons (ps_while PassesOwn.never (pt_neD K (hu64 hr) (pv 4) (pe_lst pa_nil))
      (pss_cons (ps_set (i := 5) sc_order_in.nd rfl (Or.inr rfl) (lcF2 K 7 8 sc_order_in.nd (wi_list K (pv 2)) (fun _ _ _ _ _ => (pt_in K (pv 7) (pv 4))) (fun _ _ _ _ _ => (pv 8))))
      (pss_cons (slcF 9 6 sc_order_in.nd (wi_list K (pv 4)) (fun _ _ _ _ _ => (pt_ni K (pv 9) (pv 5))) (fun _ _ _ _ _ => (pv 9)))
      (pss_cons (ps_if (pt_eqD K (hu64 hr) (pv 6) (pe_lst pa_nil))
        (pss_one (ps_ret pe_non))
        pss_nil)
      (pss_cons (ps_expr (pe_bm PySem.F.plainAttrs_list PySem.F.slot_list_append PySem.F.type_list_append mt_append (pv 3) (pa_cons (xL K (pv 6) pe_int) pa_nil)))
      (pss_one (ps_expr (pe_bm PySem.F.plainAttrs_list PySem.F.slot_list_remove PySem.F.type_list_remove mt_remove (pv 4) (pa_cons (xL K (pv 6) pe_int) pa_nil)))))))))
    (pss_one (ps_ret (pe_tupOf K T (pv 3)))))), fun Q q => ?_⟩
  refine s_three (ds := (List.range gs.length).map nD) (Ev.toR (ev_call (ea_two (ev_var rfl h0) (ev_var rfl h1)) ⟨n, gs, tk, rfl, hl, S.injT, hm, rfl⟩)) (fun v G1 G2 s h => h.mono s) (dj_nil _) (fun p G2 s2 => ?_) fun v2 fp lp zs G2 s2 hfp hlp dj2 hv2 hz => ?_
  · have := evm_lstRg (K := K) (M := (p, []) :: []) (σ := start ["web", "taking", "arrows", "found", "left", "barred", "free", "first", "later", "guest"] [v0, v1]) (G := G2) (te := tCB (rLenQ K) (tCons (tVar 1) tNil)) (n := gs.length) (by
      have := ev_lenT (K := K) (M := (p, []) :: []) (σ := start ["web", "taking", "arrows", "found", "left", "barred", "free", "first", "later", "guest"] [v0, v1]) (G := G2) (ta := tVar 1) (ev_var rfl (h1.mono s2))
      rw [List.length_map, hl] at this
      exact this) (by omega)
    exact this
  · have hne : lp ≠ fp := lk_ne hlp
    have ez := dp_iV' hz
    subst ez
    refine s_while (fun k σ1 G1 M1 => ∃ (wk : List Nat) (x5 x6 : Option V), Pre gs.length (fOf (arF gs tk)) wk ∧ wk.length + k = gs.length ∧ wk ++ gone (fOf (arF gs tk)) true k (cands gs.length wk) = gone (fOf (arF gs tk)) true gs.length (List.range gs.length) ∧
        σ1 = [some v0, some v1, some v2, some (.ref fp), some (.ref lp), x5, x6, none, none, none] ∧ M1 = [(lp, (cands gs.length wk).map iV), (fp, wk.map iV)]) dj2 gs.length ⟨[], none, none, pre_nil, by simp, by rw [cands_nil]; rfl, rfl, by rw [cands_nil]; rfl⟩ ?_
    rintro k σ1 G3 M3 s3 dj3 ⟨wk, x5, x6, pre, hk, hg, rfl, rfl⟩
    have cl : (cands gs.length wk).length ≤ 1000 := by
      have := List.length_filter_le (fun k => !decide (k ∈ wk)) (List.range gs.length)
      rw [List.length_range] at this
      unfold cands
      omega
    have ll : ∀ {G4 : Hp} (σ' : L2.St), σ'[4]? = some (some (.ref lp)) → EvL K [(lp, (cands gs.length wk).map iV), (fp, wk.map iV)] (tVar 4) σ' G4 ((cands gs.length wk).map nD) := fun σ' e => evl_var e lk_here (dp_iV _)
    have hv2' := hv2.mono s3
    refine ⟨_, eb_neL (ll _ rfl).toS.toJ cl, fun b G4 s4 dj4 => ?_, fun b G4 s4 dj4 => ?_⟩
    · have hk0 : k ≠ 0 := fun e => by
        subst e
        rw [cands_full pre.nd pre.lt (by omega)] at b
        simp at b
      have ne := Pre.left gg pre (by omega)
      have hv2' := hv2'.mono s4
      -- barred
      refine s_set (K := K) (d := .list (((arS gs tk).filter fun a => decide (a.1 ∈ cands gs.length wk)).map fun a => nD a.2)) (EvM.toE (evm_lc (arS gs tk) gD (fun a => decide (a.1 ∈ cands gs.length wk)) (fun a => nD a.2) (mono_two 7 8) (ei_list (ev_var rfl hv2')) (fun _ _ _ => trivial) (by have := arS_len gs tk; omega) fun a ha Da acc hDa G5 x s5 dj5 hx => ?_)) dj4 fun v5 G5 s5 dj5 hv5 => ?_
      · refine g_two dj5 hx fun v7 v8 h7 h8 => ⟨G5, rfl, Same.refl _, dj5, rfl, eb_test (ev_inNL (neg := false) (ev_var rfl h7) (EvL.toS (evl_var rfl (lk_there lk_here hDa) (dp_iV _)))), fun _ => ev_var rfl h8⟩
      rw [show (fun a : Nat × Nat => nD a.2) = nD ∘ (·.2) from rfl, ← List.map_map] at hv5
      -- free
      refine s_set (K := K) (d := lD (fr (fOf (arF gs tk)) (cands gs.length wk))) (EvM.toE ?_) dj5 fun v6 G6 s6 dj6 hv6 => ?_
      · rw [← free_eq (gs := gs) (T := tk) (fun g hg => (mem_cands.mp hg).1)]
        exact evm_lcNk (cands gs.length wk) nD _ nD (ei_mlist rfl lk_here (dp_iV _)) (fun Da acc hDa => lk_there lk_here hDa) (by omega) fun g hg Da acc hDa G6 x s6 dj6 hx => ⟨rfl, eb_test (ev_inNL (neg := true) (ev_var rfl hx) (Ev.toS (ev_var rfl (hv5.mono s6)))), fun _ => ev_var rfl hx⟩
      have fl : (fr (fOf (arF gs tk)) (cands gs.length wk)).length ≤ 1000 := by
        have := List.length_filter_le (fun g => !((fOf (arF gs tk)) g).any fun o => decide (o ∈ cands gs.length wk)) (cands gs.length wk)
        unfold fr
        omega
      refine s_ifF (eb_eqL (K := K) (l := fr (fOf (arF gs tk)) (cands gs.length wk)) (Ev.toJ (ev_var rfl hv6)) fl) dj6 (by simp [ne]) fun G7 s7 dj7 => ?_
      have hv7 := hv6.mono s7
      cases ef : fr (fOf (arF gs tk)) (cands gs.length wk) with
      | nil => exact absurd ef ne
      | cons g rest =>
        rw [ef] at hv7
        have hgf : g ∈ fr (fOf (arF gs tk)) (cands gs.length wk) := by rw [ef]; exact List.mem_cons_self
        have hgc : g ∈ cands gs.length wk := (List.mem_filter.mp hgf).1
        have at0 : ∀ {M' : Mh} {G8 : Hp}, Same G7 G8 → Ev K M' (tOp (rIxL K) (tVar 6) (tC (.int 0))) [some v0, some v1, some v2, some (.ref fp), some (.ref lp), some v5, some v6, none, none, none] G8 (nD g) := fun s8 => ev_ixL (ds := (g :: rest).map nD) (Ev.toS (ev_var rfl (hv7.mono s8))) ev_int (atI_head _ _)
        show tSeq _ _ _ _ (jn G7 _)
        rw [jn_swap hne]
        refine s_append rfl (at0 (Same.refl _)) (by rw [List.length_map]; omega) (dj_swap hne dj7) fun v8 G8 s8 dj8 hv8 => ?_
        cases hv8
        rw [jn_swap (Ne.symm hne)]
        have nd : (cands gs.length wk).Nodup := (cands_lt wk).imp fun h => Nat.ne_of_lt h
        have hix : (cands gs.length wk).idxOf g < (cands gs.length wk).length := List.idxOf_lt_length_of_mem hgc
        refine st_remove (ns := cands gs.length wk) (jx := (cands gs.length wk).idxOf g) rfl (at0 s8) rfl ?_ ?_ (dj_swap (Ne.symm hne) dj8) fun G9 s9 dj9 => ?_
        · rw [List.getElem?_eq_getElem hix, List.getElem_idxOf]
        · intro j hj e
          have hj2 : j < (cands gs.length wk).length := by omega
          rw [List.getElem?_eq_getElem hj2] at e
          have := List.idxOf_lt_length_of_mem hgc
          have e2 := Option.some.inj e
          have : (cands gs.length wk).idxOf g = j := by rw [← e2]; exact idx_at nd hj2
          omega
        · have ee : (cands gs.length wk).eraseIdx ((cands gs.length wk).idxOf g) = cands gs.length (wk ++ [g]) := by
            rw [← List.erase_eq_eraseIdx_of_idxOf rfl, nd.erase_eq_filter, ← cands_snoc]
            refine List.filter_congr fun x _ => ?_
            by_cases e : x = g
            · simp [e]
            · simp [e]
          rw [ee] at dj9 ⊢
          obtain ⟨k', rfl⟩ : ∃ k', k = k' + 1 := ⟨k - 1, by omega⟩
          refine nd_of rfl ((((s3.trans s4).trans s5).trans s6).trans (s7.trans (s8.trans s9))) dj9 ⟨k', Nat.lt_succ_self _, wk ++ [g], _, _, Pre.snoc gg.1 pre hgf, ?_, ?_, rfl, ?_⟩
          · rw [List.length_append, List.length_singleton]
            omega
          · rw [← hg]
            show wk ++ [g] ++ gone _ true k' (cands gs.length (wk ++ [g])) = wk ++ (match pick true (fr (fOf (arF gs tk)) (cands gs.length wk)) with
              | none => []
              | some g => g :: gone _ true k' ((cands gs.length wk).filter fun k => !decide (k = g)))
            rw [ef]
            show wk ++ [g] ++ gone _ true k' (cands gs.length (wk ++ [g])) = wk ++ g :: gone _ true k' ((cands gs.length wk).filter fun k => !decide (k = g))
            rw [cands_snoc, List.append_assoc]
            rfl
          · rw [List.map_append]
            rfl
    · have hk0 : k = 0 := by
        rcases Nat.eq_zero_or_pos k with e | e
        · exact e
        · exfalso
          have ne := Pre.left gg pre (by omega)
          have b : cands gs.length wk = [] := by simpa using b
          rw [b] at ne
          exact ne rfl
      subst hk0
      have hg : wk = gone (fOf (arF gs tk)) true gs.length (List.range gs.length) := by
        rw [← hg]
        show wk = wk ++ []
        rw [List.append_nil]
      rw [← hg] at q
      exact finM q (s2.trans (s3.trans s4)) dj4 (ev_tupOf (ds := wk.map nD) (EvL.toS (evl_var rfl (lk_there lk_here (by rw [lk_cons, if_neg hne]; rfl)) (dp_iV _)))).toJ
end
end Lw
/-! text D9 -/
set_option Elab.async false
set_option linter.all false
set_option maxRecDepth 100000
set_option maxHeartbeats 2000000
namespace Lw
open PySem PySem.Spec PyProof.Rows L2
section
variable {P : Program} {w : World} {K : PySem.W.Frag} {mg : Str → Option Value} {base : Heap}
/-! ### is_outcome_in(web, taking) -/
def R_is_outcome_in : List PyData → PyData → Prop := fun ds d => ∃ (n : Nat) (gs : Gs) (T : List (Option Nat)), ds = [webD n gs, tD T] ∧ Tk gs T ∧ d = .bool true
theorem sc_is_outcome_in : FnScope ["web", "taking"] ["web", "taking"] (defScope s_is_outcome_in) := ⟨rfl, rfl, rfl, by decide +kernel, rfl, by decide +kernel, by decide +kernel⟩
theorem c_is_outcome_in (D : Dn K mg "is_outcome_in" s_is_outcome_in ["web", "taking"]) (k_lacking_in : Cal P w K mg base 2 "lacking_in" (Pr K R_lacking_in)) (k_order_in : Cal P w K mg base 3 "order_in" (Pr K R_order_in)) : Cal P w K mg base 4 "is_outcome_in" (Pr K R_is_outcome_in) := by
  refine D.pr sc_is_outcome_in (fun ds d h => by obtain ⟨n, g, x, rfl, _⟩ := h; rfl) (fun f cdv A outer s H E vs ds d hr h hv => ?_)
  obtain ⟨n, gs, tk, rfl, ok, rfl⟩ := h
  obtain ⟨v0, v1, rfl, h0, h1⟩ := dp2 hv
  refine ⟨_, (pss_one (ps_ret (pe_and (pe_eqD K (hu64 hr) (pe_ca k_lacking_in hr (by decide) rfl (pa_cons (pv 0) (pa_cons (pv 1) pa_nil))) (pe_lst pa_nil)) (pe_one (pe_cmpR op_notN (pe_ca k_order_in hr (by decide) rfl (pa_cons (pv 0) (pa_cons (pv 1) pa_nil))) pe_non (nomark _)))))), fun Q q => ?_⟩
  exact fin q (Same.refl _) (ev_and (b := true) (by
    have := ev_eqD (K := K) (M := []) (σ := start ["web", "taking"] [v0, v1]) (G := H) (Ev.toJ (ev_call (R := R_lacking_in) (E := E0) (ta := tCons (tVar 0) (tCons (tVar 1) tNil)) (ea_two (ev_var rfl h0) (ev_var rfl h1)) ⟨n, gs, tk, rfl, ok.sound, ok.le, rfl⟩)) (EvM.toE (evm_lst ea_nil)).toJ (sh_l (p := []) (by decide)) (sh_l (p := []) (by decide))
    rw [show (PyData.list []) = lD [] from rfl, eqv_lD] at this
    exact this) fun _ => ev_notN (ev_call (ea_two (ev_var rfl h0) (ev_var rfl h1)) ⟨n, gs, tk, rfl, ok, rfl⟩))
/-! ### sure_outcome(web, outcome) -/
def R_sure_outcome : List PyData → PyData → Prop := fun ds d => ∃ (n : Nat) (gs : Gs) (x : PyData) (T : List (Option Nat)), ds = [webD n gs, x] ∧ As 1 x (tD T) ∧ Tk gs T ∧ d = tD T
theorem sc_sure_outcome : FnScope ["web", "outcome", "own"] ["web", "outcome"] (defScope s_sure_outcome) := ⟨rfl, rfl, rfl, by decide +kernel, rfl, by decide +kernel, by decide +kernel⟩
theorem c_sure_outcome (D : Dn K mg "sure_outcome" s_sure_outcome ["web", "outcome"]) (k_sure_taking : Cal P w K mg base 3 "sure_taking" (Pr K R_sure_taking)) (k_is_outcome_in : Cal P w K mg base 4 "is_outcome_in" (Pr K R_is_outcome_in)) : Cal P w K mg base 5 "sure_outcome" (Pr K R_sure_outcome) := by
  refine D.pr sc_sure_outcome (fun ds d h => by obtain ⟨n, g, x, p, rfl, _⟩ := h; rfl) (fun f cdv A outer s H E vs ds d hr h hv => ?_)
  obtain ⟨n, gs, x, tk, rfl, hx, ok, rfl⟩ := h
  obtain ⟨v0, v1, rfl, h0, h1⟩ := dp2 hv
  refine ⟨_, (pss_cons (ps_set (i := 2) sc_sure_outcome.nd rfl (Or.inl rfl) (pe_ca k_sure_taking hr (by decide) rfl (pa_cons (pv 0) (pa_cons (pv 1) pa_nil))))
    (pss_cons (ps_if (pt_not (pt_val (pe_ca k_is_outcome_in hr (by decide) rfl (pa_cons (pv 0) (pa_cons (pv 2) pa_nil)))))
      (pss_one ps_never)
      pss_nil)
    (pss_one (ps_ret (pv 2))))), fun Q q => ?_⟩
  refine s_set (ev_call (ea_two (ev_var rfl h0) (ev_var rfl h1)) ⟨n, gs, x, tk, rfl, hx, ok.sound, ok.le, rfl⟩) (dj_nil _) fun v2 G1 s1 dj1 h2 => ?_
  exact s_ifF (eb_not (eb_B (ev_call (ea_two (ev_var rfl (h0.mono s1)) (ev_var rfl h2)) ⟨n, gs, tk, rfl, ok, rfl⟩))) dj1 rfl fun G2 s2 dj2 => fin q (s1.trans s2) (ev_var rfl (h2.mono s2))
/-! ### sure_had(web, outcome) -/
/-- a web and one of its outcomes, written down -/
structure Had (x y : PyData) (n : Nat) (gs : Gs) (T : List (Option Nat)) : Prop where
  x : As 3 x (webD n gs)
  y : As 1 y (tD T)
  pos : 1 ≤ n
  web : WebOk n gs
  tk : Tk gs T
def R_sure_had : List PyData → PyData → Prop := fun ds d => ∃ (x y : PyData) (n : Nat) (gs : Gs) (T : List (Option Nat)), ds = [x, y] ∧ Had x y n gs T ∧ d = .tuple [webD n gs, tD T]
theorem sc_sure_had : FnScope ["web", "outcome", "own"] ["web", "outcome"] (defScope s_sure_had) := ⟨rfl, rfl, rfl, by decide +kernel, rfl, by decide +kernel, by decide +kernel⟩
theorem c_sure_had (D : Dn K mg "sure_had" s_sure_had ["web", "outcome"]) (k_sure_web : Cal P w K mg base 5 "sure_web" (Pr K R_sure_web)) (k_sure_outcome : Cal P w K mg base 5 "sure_outcome" (Pr K R_sure_outcome)) : Cal P w K mg base 6 "sure_had" (Pr K R_sure_had) := by
  refine D.pr sc_sure_had (fun ds d h => by obtain ⟨x, y, n, g, p, rfl, _⟩ := h; rfl) (fun f cdv A outer s H E vs ds d hr h hv => ?_)
  obtain ⟨x, y, n, gs, tk, rfl, had, rfl⟩ := h
  obtain ⟨v0, v1, rfl, h0, h1⟩ := dp2 hv
  refine ⟨_, (pss_cons (ps_set (i := 2) sc_sure_had.nd rfl (Or.inl rfl) (pe_ca k_sure_web hr (by decide) rfl (pa_cons (pv 0) pa_nil)))
    (pss_one (ps_ret (pe_tup (pa_cons (pv 2) (pa_cons (pe_ca k_sure_outcome hr (by decide) rfl (pa_cons (pv 2) (pa_cons (pv 1) pa_nil))) pa_nil)))))), fun Q q => ?_⟩
  refine s_set (ev_call (ea_one (ev_var rfl h0)) ⟨x, n, gs, rfl, had.x, had.pos, had.web, had.tk.le, rfl⟩) (dj_nil _) fun v2 G1 s1 dj1 h2 => ?_
  exact fin q s1 (ev_tup (ea_two (ev_var rfl h2) (ev_call (ea_two (ev_var rfl h2) (ev_var rfl (h1.mono s1))) ⟨n, gs, y, tk, rfl, had.y, had.tk, rfl⟩)) (by show 2 ≤ 100000; decide))
/-! ### free_of(left, firsts), others_left(left, guest), all_of(web) -/
/-- lists of numbers, not too long -/
structure FsS (Fs : List (List Nat)) : Prop where
  l : Fs.length ≤ 1000
  i : ∀ F ∈ Fs, F.length ≤ 2000
def R_free_of : List PyData → PyData → Prop := fun ds d => ∃ (left : List Nat) (Fs : List (List Nat)), ds = [rD left, llD Fs] ∧ (∀ g ∈ left, g < Fs.length) ∧ left.length ≤ 1000 ∧ FsS Fs ∧ d = lD (fr (fOf Fs) left)
theorem sc_free_of : FnScope ["left", "firsts", "guest", "own"] ["left", "firsts"] (defScope s_free_of) := ⟨rfl, rfl, rfl, by decide +kernel, rfl, by decide +kernel, by decide +kernel⟩
theorem c_free_of (T : Tx mg) (D : Dn K mg "free_of" s_free_of ["left", "firsts"]) : Cal P w K mg base 1 "free_of" (Pr K R_free_of) := by
  refine D.pr sc_free_of (fun ds d h => by obtain ⟨x, y, rfl, _⟩ := h; rfl) (fun f cdv A outer s H E vs ds d hr h hv => ?_)
  obtain ⟨left, Fs, rfl, hlt, hl, hF, rfl⟩ := h
  obtain ⟨v0, v1, rfl, h0, h1⟩ := dp2 hv
  refine ⟨_, (pss_one (ps_ret (lcF 2 sc_free_of.nd (wi_tup K (pv 0)) (fun _ _ _ _ _ => (pt_not (pt_val (pe_any K T rfl (lcA 3 sc_free_of.nd (wi_list K (xL K (pv 1) (pv 2))) (fun _ _ _ _ _ => (pe_in K (pv 3) (pv 0)))))))) (fun _ _ _ _ _ => (pv 2))))), fun Q q => ?_⟩
  refine fin q (Same.refl _) (EvM.toE (ds := (fr (fOf Fs) left).map nD) (evm_lcN left nD _ nD (ei_tup (ev_var rfl h0)) (by omega) fun g hg Da acc hDa G1 x s1 dj1 hx => ⟨rfl, eb_not (eb_B (K := K) ?_), fun _ => ev_var rfl hx⟩))
  have h0 := h0.mono s1
  have h1 := h1.mono s1
  have hg2 := hlt g hg
  have hat : Fs[g]? = some (fOf Fs g) := by
    unfold fOf
    rw [List.getD_eq_getElem?_getD, List.getElem?_eq_getElem hg2]
    rfl
  have hFl := hF.i _ (List.mem_of_getElem? hat)
  have : ((fOf Fs g).map fun o => decide (o ∈ left)).any id = (fOf Fs g).any fun o => decide (o ∈ left) := by
    rw [List.any_map]
    rfl
  rw [← this]
  refine ev_any (EvM.toE ?_).toS
  rw [List.map_map]
  exact evm_lcA (fOf Fs g) nD (fun o => .bool (decide (o ∈ left))) (ei_list (ev_ixL (ds := Fs.map lD) (Ev.toS (ev_var rfl h1)) (ev_var rfl hx) (atI_nat (map_at hat)))) (by omega) fun o ho Db acb hDb G2 y s2 dj2 hy => ⟨rfl, ev_inNT (neg := false) (ev_var rfl hy) (ev_var rfl (h0.mono s2))⟩
def R_others_left : List PyData → PyData → Prop := fun ds d => ∃ (left : List Nat) (g : Nat), ds = [rD left, nD g] ∧ left.length ≤ 1000 ∧ d = rD (left.filter fun k => !decide (k = g))
theorem sc_others_left : FnScope ["left", "guest", "own"] ["left", "guest"] (defScope s_others_left) := ⟨rfl, rfl, rfl, by decide +kernel, rfl, by decide +kernel, by decide +kernel⟩
theorem nat_dec (a b : Nat) : decide (((a : Nat) : Int) = ((b : Nat) : Int)) = decide (a = b) := decide_eq_decide.mpr ⟨Int.ofNat.inj, congrArg _⟩
theorem c_others_left (T : Tx mg) (D : Dn K mg "others_left" s_others_left ["left", "guest"]) : Cal P w K mg base 1 "others_left" (Pr K R_others_left) := by
  refine D.pr sc_others_left (fun ds d h => by obtain ⟨x, y, rfl, _⟩ := h; rfl) (fun f cdv A outer s H E vs ds d hr h hv => ?_)
  obtain ⟨left, g, rfl, hl, rfl⟩ := h
  obtain ⟨v0, v1, rfl, h0, h1⟩ := dp2 hv
  refine ⟨_, (pss_one (ps_ret (pe_tupOf K T (lcF 2 sc_others_left.nd (wi_tup K (pv 0)) (fun _ _ _ _ _ => (pt_cmpR op_ne (pv 2) (pv 1) (nomark _))) (fun _ _ _ _ _ => (pv 2)))))), fun Q q => ?_⟩
  exact fin q (Same.refl _) (ev_tupOf (ds := (left.filter fun k => !decide (k = g)).map nD) (EvM.toE (evm_lcN left nD _ nD (ei_tup (ev_var rfl h0)) (by omega) fun k hk Da acc hDa G1 x s1 dj1 hx => ⟨rfl, by
    have := eb_test (ev_neI (K := K) (M := (Da, acc) :: []) (σ := ((wipe (start ["left", "guest", "own"] [v0, v1]) [2]).set 2 (some x))) (ta := tVar 2) (tb := tVar 1) (G := G1) (ev_var rfl hx) (ev_var rfl (h1.mono s1)))
    rw [nat_dec] at this
    exact this, fun _ => ev_var rfl hx⟩)).toS)
def R_all_of : List PyData → PyData → Prop := fun ds d => ∃ (n : Nat) (gs : Gs), ds = [webD n gs] ∧ gs.length ≤ 1000 ∧ d = rD (List.range gs.length)
theorem sc_all_of : FnScope ["web"] ["web"] (defScope s_all_of) := ⟨rfl, rfl, rfl, by decide +kernel, rfl, by decide +kernel, by decide +kernel⟩
theorem c_all_of (T : Tx mg) (D : Dn K mg "all_of" s_all_of ["web"]) : Cal P w K mg base 1 "all_of" (Pr K R_all_of) := by
  refine D.pr sc_all_of (fun ds d h => by obtain ⟨x, y, rfl, _⟩ := h; rfl) (fun f cdv A outer s H E vs ds d hr h hv => ?_)
  obtain ⟨n, gs, rfl, hl, rfl⟩ := h
  obtain ⟨v0, rfl, h0⟩ := dp1 hv
  refine ⟨_, (pss_one (ps_ret (pe_tupRg rfl (by rfl) T.tuple_ (prg_1 (by rfl) T.range_ (pe_len K T (xT K (pv 0) pe_int)))))), fun Q q => ?_⟩
  refine fin q (Same.refl _) (ev_tupRg (ev_lenT (ev_ixT (d := .tuple (gs.map gD)) (ev_var rfl h0) ev_int rfl)) (by rw [List.length_map]; omega)) ?_
  rw [List.length_map]
end
end Lw
/-! text D10 -/
set_option Elab.async false
set_option linter.all false
set_option maxRecDepth 100000
set_option maxHeartbeats 2000000
namespace Lw
open PySem PySem.Spec PyProof.Rows L2
section
variable {P : Program} {w : World} {K : PySem.W.Frag} {mg : Str → Option Value} {base : Heap}
theorem ev_neg {M : Mh} {σ : L2.St} {G : Hp} {te : TE} {i : Int} (h : Ev K M te σ G (.int i)) : Ev K M (tUn (rU fun i => .int (-i)) te) σ G (.int (-i)) := fun G1 s dj Q q => h G1 s dj _ fun v G2 s2 dj2 hv => by
  cases hv
  exact ⟨i, rfl, q _ G2 s2 dj2 (.int _)⟩
theorem eb_neR {M : Mh} {σ : L2.St} {G : Hp} {te : TE} {l : List Nat} (h : EvJ K M te σ G (rD l)) (hl : l.length ≤ 1000) : EvB M (tTest (tOp (rNeD K) te (tTup tNil))) σ G (!decide (l = [])) := by
  have := eb_test (ev_neD h (Ev.toJ (ev_tup ea_nil)) (sh_r hl) (sh_r (p := []) (by decide)))
  rw [show (PyData.tuple []) = rD [] from rfl, eqv_rD] at this
  exact this
theorem cands_le (m : Nat) (wk : List Nat) : (cands m wk).length ≤ m := by
  have := List.length_filter_le (fun k => !decide (k ∈ wk)) (List.range m)
  rw [List.length_range] at this
  exact this
/-! ### gone_on(left, firsts, is_least) -/
def R_gone_on : List PyData → PyData → Prop := fun ds d => ∃ (m n : Nat) (wk : List Nat) (Fs : List (List Nat)) (dir : Bool), ds = [rD (cands m wk), llD Fs, .bool dir] ∧ Going m (fOf Fs) ∧ Pre m (fOf Fs) wk ∧ wk.length + n = m ∧ Fs.length = m ∧ FsS Fs ∧ d = rD (gone (fOf Fs) dir n (cands m wk))
theorem sc_gone_on : FnScope ["left", "firsts", "is_least", "found", "goods"] ["left", "firsts", "is_least"] (defScope s_gone_on) := ⟨rfl, rfl, rfl, by decide +kernel, rfl, by decide +kernel, by decide +kernel⟩
theorem last_snoc {α : Type} (l : List α) (x : α) : atI (l ++ [x]) (-1) = some x := atI_last' (by simp)
theorem c_gone_on (T : Tx mg) (D : Dn K mg "gone_on" s_gone_on ["left", "firsts", "is_least"]) (k_free_of : Cal P w K mg base 1 "free_of" (Pr K R_free_of)) (k_others_left : Cal P w K mg base 1 "others_left" (Pr K R_others_left)) : Cal P w K mg base 2 "gone_on" (Pr K R_gone_on) := by
  refine D.pr sc_gone_on (fun ds d h => by obtain ⟨_, _, _, _, _, rfl, _⟩ := h; rfl) (fun f cdv A outer s H E vs ds d hr h hv => ?_)
  obtain ⟨m, n, wk0, Fs, dir, rfl, gg, pre0, hn, hFl, hF, rfl⟩ := h
  obtain ⟨v0, v1, v2, rfl, h0, h1, h2⟩ := dp3 hv
  cases h2
  have hm : m ≤ 1000 := by rw [← hFl]; exact hF.l
  refine ⟨_, (pss_cons (ps_set (i := 3) sc_gone_on.nd rfl (Or.inl rfl) (pe_lst pa_nil))
    (pss_cons (ps_while PassesOwn.never (pt_neD K (hu64 hr) (pv 0) (pe_tup pa_nil))
      (pss_cons (ps_set (i := 4) sc_gone_on.nd rfl (Or.inl rfl) (pe_ca k_free_of hr (by decide) rfl (pa_cons (pv 0) (pa_cons (pv 1) pa_nil))))
      (pss_cons (ps_expr (pe_bm PySem.F.plainAttrs_list PySem.F.slot_list_append PySem.F.type_list_append mt_append (pv 3) (pa_cons (pe_ifExp (pt_val (pv 2)) (xL K (pv 4) pe_int) (xL K (pv 4) (pe_un un_neg pe_int))) pa_nil)))
      (pss_one (ps_set (i := 0) sc_gone_on.nd rfl (Or.inl rfl) (pe_ca k_others_left hr (by decide) rfl (pa_cons (pv 0) (pa_cons (xL K (pv 3) (pe_un un_neg pe_int)) pa_nil))))))))
    (pss_one (ps_ret (pe_tupOf K T (pv 3)))))), fun Q q => ?_⟩
  refine s_setM (K := K) (evm_lst ea_nil) (dj_nil _) fun fp xs G2 s2 hfp dj2 hx => ?_
  cases hx
  refine s_while (fun k σ1 G1 M1 => ∃ (wk done : List Nat) (x0 : V) (x4 : Option V), Pre m (fOf Fs) wk ∧ wk.length + k = m ∧ done ++ gone (fOf Fs) dir k (cands m wk) = gone (fOf Fs) dir n (cands m wk0) ∧ done.length ≤ m ∧ done.length + k ≤ m ∧
      σ1 = [some x0, some v1, some (.bl dir), some (.ref fp), x4] ∧ M1 = [(fp, done.map iV)] ∧ Dp K G1 x0 (rD (cands m wk))) dj2 n ⟨wk0, [], v0, none, pre0, hn, rfl, Nat.zero_le _, by simp; omega, rfl, rfl, h0.mono s2⟩ ?_
  rintro k σ1 G3 M3 s3 dj3 ⟨wk, done, x0, x4, pre, hk, hg, hdl, hdk, rfl, rfl, hx0⟩
  have cl := cands_le m wk
  have fl : (fr (fOf Fs) (cands m wk)).length ≤ 1000 := by
    have := List.length_filter_le (fun g => !((fOf Fs) g).any fun o => decide (o ∈ cands m wk)) (cands m wk)
    unfold fr
    omega
  refine ⟨_, eb_neR (Ev.toJ (ev_var rfl hx0)) (by omega), fun b G4 s4 dj4 => ?_, fun b G4 s4 dj4 => ?_⟩
  · have hk0 : k ≠ 0 := fun e => by
      subst e
      rw [cands_full pre.nd pre.lt (by omega)] at b
      simp at b
    have ne := Pre.left gg pre (by omega)
    have h1 := h1.mono (s2.trans (s3.trans s4))
    have hx0 := hx0.mono s4
    refine s_set (ev_call (ea_two (ev_var rfl hx0) (ev_var rfl h1)) ⟨cands m wk, Fs, rfl, fun g hg => by rw [hFl]; exact (mem_cands.mp hg).1, by omega, hF, rfl⟩) dj4 fun v4 G5 s5 dj5 h4 => ?_
    have hx0 := hx0.mono s5
    -- the one picked
    obtain ⟨g, hp⟩ : ∃ g, pick dir (fr (fOf Fs) (cands m wk)) = some g := by
      cases e : pick dir (fr (fOf Fs) (cands m wk)) with
      | some g => exact ⟨g, rfl⟩
      | none =>
        exfalso
        unfold pick at e
        cases dir with
        | true => exact ne (List.head?_eq_none_iff.mp e)
        | false => exact ne (List.getLast?_eq_none_iff.mp e)
    have hgf : g ∈ fr (fOf Fs) (cands m wk) := by
      unfold pick at hp
      cases dir with
      | true => exact List.mem_of_mem_head? (by rw [if_pos rfl] at hp; exact hp)
      | false => exact List.mem_of_getLast? (by rw [if_neg (by decide)] at hp; exact hp)
    refine s_append rfl (d := nD g) (ev_if (b := dir) (eb_B (K := K) (ev_var rfl (.bl dir))) (fun e => ?_) (fun e => ?_)) (by rw [List.length_map]; omega) dj5 fun v8 G6 s6 dj6 h8 => ?_
    · subst e
      unfold pick at hp
      rw [if_pos rfl] at hp
      cases ef : fr (fOf Fs) (cands m wk) with
      | nil => exact absurd ef ne
      | cons a rest =>
        rw [ef] at hp h4
        cases hp
        exact ev_ixL (ds := (g :: rest).map nD) (Ev.toS (ev_var rfl h4)) ev_int (atI_head _ _)
    · subst e
      unfold pick at hp
      rw [if_neg (by decide)] at hp
      exact ev_ixL (ds := (fr (fOf Fs) (cands m wk)).map nD) (Ev.toS (ev_var rfl h4)) (ev_neg ev_int) (atI_last' (by rw [List.getLast?_map, hp]; rfl))
    · cases h8
      have el : EvS K [(fp, done.map iV ++ [iV g])] (tVar 3) [some x0, some v1, some (.bl dir), some (.ref fp), some v4] G6 ((done ++ [g]).map nD) := EvL.toS (evl_var rfl lk_here (by rw [show done.map iV ++ [iV g] = (done ++ [g]).map iV by simp]; exact dp_iV _))
      refine st_set (K := K) (ev_call (ea_two (ev_var rfl (hx0.mono s6)) (ev_ixL el (ev_neg ev_int) (by rw [List.map_append]; exact last_snoc _ (nD g)))) ⟨cands m wk, g, rfl, by omega, rfl⟩) dj6 fun v9 G7 s7 dj7 h9 => ?_
      rw [cands_snoc] at h9
      obtain ⟨k', rfl⟩ : ∃ k', k = k' + 1 := ⟨k - 1, by omega⟩
      refine nd_of rfl (s3.trans (s4.trans (s5.trans (s6.trans s7)))) dj7 ⟨k', Nat.lt_succ_self _, wk ++ [g], done ++ [g], v9, _, Pre.snoc gg.1 pre hgf, ?_, ?_, ?_, ?_, rfl, ?_, h9⟩
      · rw [List.length_append, List.length_singleton]
        omega
      · rw [← hg]
        show done ++ [g] ++ gone _ dir k' (cands m (wk ++ [g])) = done ++ (match pick dir (fr (fOf Fs) (cands m wk)) with
          | none => []
          | some g => g :: gone _ dir k' ((cands m wk).filter fun k => !decide (k = g)))
        rw [hp]
        show done ++ [g] ++ gone _ dir k' (cands m (wk ++ [g])) = done ++ g :: gone _ dir k' ((cands m wk).filter fun k => !decide (k = g))
        rw [cands_snoc, List.append_assoc]
        rfl
      · rw [List.length_append, List.length_singleton]
        omega
      · rw [List.length_append, List.length_singleton]
        omega
      · rw [List.map_append]
        rfl
  · have hk0 : k = 0 := by
      rcases Nat.eq_zero_or_pos k with e | e
      · exact e
      · exfalso
        have ne := Pre.left gg pre (by omega)
        have b : cands m wk = [] := by simpa using b
        rw [b] at ne
        exact ne rfl
    subst hk0
    have hg : done = gone (fOf Fs) dir n (cands m wk0) := by
      rw [← hg]
      show done = done ++ []
      rw [List.append_nil]
    rw [← hg] at q
    exact finM q (s2.trans (s3.trans s4)) dj4 (ev_tupOf (ds := done.map nD) (EvL.toS (evl_var rfl lk_here (dp_iV _)))).toJ
/-! ### firsts_in(web, outcome) -/
/-- lists of numbers at rs -/
def Ms (rs : List Addr) (Fs : List (List Nat)) : Mh := (rs.zip Fs).map fun z => (z.1, z.2.map iV)
theorem Ms_none {b : Addr} : ∀ {rs : List Addr} {Fs : List (List Nat)}, b ∉ rs → (Ms rs Fs).lookup b = none
  | [], _, _ => rfl
  | _ :: _, [], _ => rfl
  | r :: rs, F :: Fs, h => by
    show ((r, F.map iV) :: Ms rs Fs : Mh).lookup b = none
    rw [lk_cons, if_neg (fun e => h (by rw [e]; exact List.mem_cons_self)), Ms_none fun e => h (List.mem_cons_of_mem _ e)]
theorem Ms_at : ∀ {rs : List Addr} {Fs : List (List Nat)} {i : Nat} {r : Addr} {F : List Nat}, rs.Nodup → rs[i]? = some r → Fs[i]? = some F → (Ms rs Fs).lookup r = some (F.map iV)
  | [], _, _, _, _, _, h, _ => by simp at h
  | _ :: _, [], _, _, _, _, _, h => by simp at h
  | r :: rs, F :: Fs, 0, r', F', nd, h1, h2 => by
    cases h1
    cases h2
    exact lk_here
  | r :: rs, F :: Fs, i + 1, r', F', nd, h1, h2 => by
    show ((r, F.map iV) :: Ms rs Fs : Mh).lookup r' = _
    have nd := List.nodup_cons.mp nd
    have hr : r' ∈ rs := List.mem_of_getElem? (by simpa using h1)
    rw [lk_cons, if_neg (fun e : r' = r => nd.1 (e ▸ hr))]
    exact Ms_at nd.2 (by simpa using h1) (by simpa using h2)
theorem Ms_set {b : Addr} : ∀ {rs : List Addr} {Fs : List (List Nat)} {i : Nat} {r : Addr} {F : List Nat}, rs[i]? = some r → b ≠ r → (Ms rs (Fs.set i F)).lookup b = (Ms rs Fs).lookup b
  | [], _, _, _, _, h, _ => by simp at h
  | _ :: _, [], _, _, _, _, _ => rfl
  | r :: rs, F :: Fs, 0, r', F', h, hb => by
    cases h
    show ((r, F'.map iV) :: Ms rs Fs : Mh).lookup b = ((r, F.map iV) :: Ms rs Fs : Mh).lookup b
    rw [lk_cons, lk_cons, if_neg hb, if_neg hb]
  | r :: rs, F :: Fs, i + 1, r', F', h, hb => by
    show ((r, F.map iV) :: Ms rs (Fs.set i F') : Mh).lookup b = ((r, F.map iV) :: Ms rs Fs : Mh).lookup b
    rw [lk_cons, lk_cons, Ms_set (by simpa using h) hb]
theorem Ms_upd {G : Hp} {rs : List Addr} {Fs : List (List Nat)} {i : Nat} {r : Addr} {F : List Nat} (nd : rs.Nodup) (h : rs[i]? = some r) (hi : i < Fs.length) : upd (jn G (Ms rs Fs)) r (.lst (F.map iV)) = jn G (Ms rs (Fs.set i F)) := by
  funext b
  by_cases e : b = r
  · subst e
    rw [upd_same, jn_in (Ms_at nd h (List.getElem?_set_self hi))]
  · rw [upd_ne e]
    unfold jn
    rw [Ms_set h e]
theorem Ms_dj {G : Hp} {rs : List Addr} {Fs : List (List Nat)} (h : ∀ r ∈ rs, G r = none) : Dj G (Ms rs Fs) := fun b xs e => by
  by_cases q : b ∈ rs
  · exact h b q
  · rw [Ms_none q] at e
    cases e
theorem Ms_snoc {rs : List Addr} {Fs : List (List Nat)} {r : Addr} {F : List Nat} (hl : rs.length = Fs.length) : Ms (rs ++ [r]) (Fs ++ [F]) = Ms rs Fs ++ [(r, F.map iV)] := by
  unfold Ms
  rw [List.zip_append hl, List.map_append]
  rfl
theorem Ms_out {G : Hp} {rs : List Addr} {Fs : List (List Nat)} (nd : rs.Nodup) (hl : rs.length = Fs.length) (dj : Dj G (Ms rs Fs)) : ∀ r ∈ rs, G r = none := fun r hr => by
  obtain ⟨a, ha, e⟩ := List.mem_iff_getElem.mp hr
  exact dj r _ (Ms_at (i := a) nd (by rw [List.getElem?_eq_getElem ha, e]) (List.getElem?_eq_getElem (by omega)))
/-- a new list, joined at the end -/
theorem jn_end {G : Hp} {M : Mh} {r : Addr} {xs : List V} (h : M.lookup r = none) : jn G ((r, xs) :: M) = jn G (M ++ [(r, xs)]) := by
  funext b
  unfold jn
  have e : (M ++ [(r, xs)]).lookup b = ((r, xs) :: M : Mh).lookup b := by
    rw [List.lookup_append, lk_cons, lk_cons]
    by_cases q : b = r
    · subst q
      rw [h, if_pos rfl, if_pos rfl]
      rfl
    · rw [if_neg q, if_neg q]
      cases M.lookup b <;> rfl
  rw [e]
/-- xs = [[] for .. in ..] -/
theorem s_lcE {σ : L2.St} {G : Hp} {ds : List PyData} {wi : TI} {i k : Nat} {vs : List Nat} {D : Ends} {us : TS} (hI : EvI K [] wi σ G ds Any) (hl : ds.length ≤ 1000) (hw : ∀ x, wipe ((wipe σ vs).set i (some x)) vs = wipe σ vs)
    (q : ∀ p rs G2, Same G G2 → rs.length = ds.length → rs.Nodup → (∀ r ∈ rs, G2 r = none) → G2 p = some (.lst (rs.map V.ref)) → us D (σ.set k (some (.ref p))) (jn G2 (Ms rs (List.replicate ds.length [])))) :
    tSeq (tAsg (tLc wi (gName i) tYes (tLst tNil) vs) (gName k)) us D σ (jn G []) := by
  refine hI G (Same.refl _) (dj_nil _) _ fun J G2 s2 dj2 it => ?_
  intro Da hD
  have n := jn_none hD
  refine ⟨fun j m H => m = ds.length - j ∧ j ≤ ds.length ∧ ∃ G3 rs, H = jn G3 ((Da, rs.map V.ref) :: Ms rs (List.replicate j [])) ∧ Same G2 G3 ∧ G3 Da = none ∧ rs.length = j ∧ rs.Nodup ∧ Da ∉ rs ∧ (∀ r ∈ rs, G3 r = none),
    ⟨ds.length, by simp, Nat.zero_le _, G2, [], by rw [jn_put]; rfl, Same.refl _, n.2, rfl, List.nodup_nil, by simp, by simp⟩, ?_⟩
  rintro j m H ⟨rfl, hj, G3, rs, rfl, s3, hDa, hrs, nd, hnr, hfr⟩
  have dj3 : Dj G3 ((Da, rs.map V.ref) :: Ms rs (List.replicate j [])) := dj_put (Ms_dj hfr) hDa
  by_cases hlt : j < ds.length
  · refine .inr ⟨it.go j G3 _ hlt s3 dj3 trivial, fun H' => j + 1 ≤ ds.length ∧ ∃ G4 rs, H' = jn G4 ((Da, rs.map V.ref) :: Ms rs (List.replicate (j + 1) [])) ∧ Same G2 G4 ∧ G4 Da = none ∧ rs.length = j + 1 ∧ rs.Nodup ∧ Da ∉ rs ∧ (∀ r ∈ rs, G4 r = none), fun H' z => ⟨ds.length - (j + 1), by omega, rfl, z⟩, fun x H' y => ?_⟩
    obtain ⟨G4, d, rfl, s4, dj4, hd1, hd2⟩ := it.yld j G3 _ x H' hlt s3 dj3 trivial y
    refine ⟨hw x, ?_⟩
    unfold tYes
    show ite _ _ _
    rw [if_pos rfl]
    refine ⟨by decide, fun r hr => ?_⟩
    have n4 := jn_none hr
    have hrD : r ≠ Da := lk_ne n4.1
    have hrn : r ∉ rs := fun hm => by
      obtain ⟨a, ha, e⟩ := List.mem_iff_getElem.mp hm
      have := n4.1
      rw [lk_cons, if_neg hrD, ← e] at this
      have q := Ms_at (F := []) (Fs := List.replicate j []) nd (List.getElem?_eq_getElem ha) (by rw [List.getElem?_replicate, if_pos (by omega)])
      rw [q] at this
      cases this
    have d4 : ∀ r ∈ rs, G4 r = none := fun r' hr' => by
      obtain ⟨a, ha, e⟩ := List.mem_iff_getElem.mp hr'
      have q := Ms_at (F := []) (Fs := List.replicate j []) nd (List.getElem?_eq_getElem ha) (by rw [List.getElem?_replicate, if_pos (by omega)])
      rw [e] at q
      exact dj4 r' _ (by rw [lk_cons, if_neg (fun z : r' = Da => hnr (z ▸ hr')), q])
    have D4 : G4 Da = none := dj_here dj4
    have ej : jn G4 ((r, []) :: (Da, rs.map V.ref) :: Ms rs (List.replicate j [])) = jn G4 ((Da, rs.map V.ref) :: Ms (rs ++ [r]) (List.replicate (j + 1) [])) := by
      rw [jn_swap hrD]
      have e1 : Ms (rs ++ [r]) (List.replicate (j + 1) []) = Ms rs (List.replicate j []) ++ [(r, [])] := by
        rw [List.replicate_succ', Ms_snoc (by rw [List.length_replicate]; exact hrs)]
        rfl
      rw [e1]
      funext b
      have := congrFun (jn_end (G := G4) (M := Ms rs (List.replicate j [])) (r := r) (xs := []) (Ms_none hrn)) b
      unfold jn at this ⊢
      by_cases q : b = Da
      · rw [lk_cons, if_pos q, lk_cons, if_pos q]
      · rw [lk_cons Da b, if_neg q, lk_cons Da b, if_neg q]
        exact this
    rw [jn_put, ej]
    refine ⟨rs.map V.ref, jn_mine, ?_, hlt, G4, rs ++ [r], ?_, s3.trans s4, D4, by rw [List.length_append, hrs]; rfl, ?_, ?_, ?_⟩
    · rw [List.length_map, hrs]
      exact Nat.lt_of_lt_of_le (by omega : j < 1001) (by decide)
    · rw [jn_set, List.map_append]
      rfl
    · rw [List.nodup_append]
      exact ⟨nd, List.nodup_cons.mpr ⟨by simp, List.nodup_nil⟩, fun a ha b hb e => by
        rw [List.mem_singleton] at hb
        subst hb
        subst e
        exact hrn ha⟩
    · intro hm
      rcases List.mem_append.mp hm with hm | hm
      · exact hnr hm
      · rw [List.mem_singleton] at hm
        exact hrD hm.symm
    · intro z hz
      rcases List.mem_append.mp hz with hz | hz
      · exact d4 z hz
      · rw [List.mem_singleton] at hz
        rw [hz]
        exact n4.2
  · have e : j = ds.length := by omega
    subst e
    refine .inl ⟨it.stop G3 _ s3 dj3 trivial, ?_⟩
    have hm : (Ms rs (List.replicate ds.length [])).lookup Da = none := Ms_none hnr
    rw [jn_give hm]
    refine q Da rs _ (s2.trans (s3.trans (same_new hDa))) hrs nd (fun r hr => ?_) upd_same
    rw [upd_ne (fun z : r = Da => hnr (z ▸ hr))]
    exact hfr r hr
def R_firsts_in : List PyData → PyData → Prop := fun ds d => ∃ (n : Nat) (gs : Gs) (T : List (Option Nat)), ds = [webD n gs, tD T] ∧ T.length = gs.length ∧ InjT T ∧ gs.length ≤ 1000 ∧ d = llD (arF gs T)
theorem sc_firsts_in : FnScope ["web", "outcome", "found", "first", "later", "_"] ["web", "outcome"] (defScope s_firsts_in) := ⟨rfl, rfl, rfl, by decide +kernel, rfl, by decide +kernel, by decide +kernel⟩
/-- by the first j arrows -/
def arFj (gs : Gs) (T : List (Option Nat)) (j : Nat) : List (List Nat) := (List.range gs.length).map fun g => (((arS gs T).take j).filter fun a => decide (a.2 = g)).map (·.1)
theorem arFj_at {gs : Gs} {T : List (Option Nat)} {j g : Nat} (h : g < gs.length) : (arFj gs T j)[g]? = some ((((arS gs T).take j).filter fun a => decide (a.2 = g)).map (·.1)) := by
  unfold arFj
  rw [List.getElem?_map, List.getElem?_range h]
  rfl
theorem arFj_len (gs : Gs) (T : List (Option Nat)) (j : Nat) : (arFj gs T j).length = gs.length := by unfold arFj; rw [List.length_map, List.length_range]
theorem arFj_step {gs : Gs} {T : List (Option Nat)} {j : Nat} {a : Nat × Nat} (h : (arS gs T)[j]? = some a) : arFj gs T (j + 1) = (arFj gs T j).set a.2 ((((arS gs T).take j).filter fun b => decide (b.2 = a.2)).map (·.1) ++ [a.1]) := by
  refine List.ext_getElem? fun g => ?_
  by_cases hg : g < gs.length
  · rw [arFj_at hg, take_more h, List.filter_append, List.map_append]
    by_cases e : a.2 = g
    · subst e
      rw [List.getElem?_set_self (by rw [arFj_len]; exact hg)]
      congr 2
      simp
    · rw [List.getElem?_set_ne e, arFj_at hg]
      congr 1
      simp [e]
  · rw [List.getElem?_eq_none (by rw [arFj_len]; omega), List.getElem?_eq_none (by rw [List.length_set, arFj_len]; omega)]
theorem c_firsts_in (T : Tx mg) (D : Dn K mg "firsts_in" s_firsts_in ["web", "outcome"]) (k_arrows_in : Cal P w K mg base 2 "arrows_in" (Pr K R_arrows_in)) : Cal P w K mg base 3 "firsts_in" (Pr K R_firsts_in) := by
  refine D.pr sc_firsts_in (fun ds d h => by obtain ⟨_, _, _, rfl, _⟩ := h; rfl) (fun f cdv A outer s H E vs ds d hr h hv => ?_)
  obtain ⟨n, gs, tk, rfl, hl, inj, hm, rfl⟩ := h
  obtain ⟨v0, v1, rfl, h0, h1⟩ := dp2 hv
  refine ⟨_, (pss_cons (slcA 5 2 sc_firsts_in.nd (wi_tup K (xT K (pv 0) pe_int)) (fun _ _ _ _ _ => (pe_lst pa_nil)))
    (pss_cons (ps_for PassesOwn.never rfl (wi_list K (pe_ca k_arrows_in hr (by decide) rfl (pa_cons (pv 0) (pa_cons (pv 1) pa_nil)))) (pg2 K rfl (pgs_cons (pg_name (i := 3) sc_firsts_in.nd rfl (Or.inl rfl)) (pgs_cons (pg_name (i := 4) sc_firsts_in.nd rfl (Or.inl rfl)) pgs_nil)))
      (pss_one (ps_expr (pe_bm PySem.F.plainAttrs_list PySem.F.slot_list_append PySem.F.type_list_append mt_append (xL K (pv 2) (pv 4)) (pa_cons (pv 3) pa_nil)))))
    (pss_one (ps_ret (pv 2))))), fun Q q => ?_⟩
  refine s_lcE (K := K) (ds := gs.map gD) (ei_tup (ev_ixT (d := .tuple (gs.map gD)) (ev_var rfl h0) ev_int rfl)) (by rw [List.length_map]; omega) (fun _ => rfl) fun p rs G2 s2 hrs nd hfr hp => ?_
  rw [List.length_map] at hrs ⊢
  have e0 : List.replicate gs.length [] = arFj gs tk 0 := by
    unfold arFj
    refine List.ext_getElem? fun g => ?_
    rw [List.getElem?_map, List.getElem?_replicate]
    by_cases hg : g < gs.length
    · rw [if_pos hg, List.getElem?_range hg]
      rfl
    · rw [if_neg hg, List.getElem?_eq_none (by rw [List.length_range]; omega)]
      rfl
  rw [e0]
  have dj2 : Dj G2 (Ms rs (arFj gs tk 0)) := Ms_dj hfr
  refine s_for (ei_list (ev_call (ea_two (ev_var rfl (h0.mono s2)) (ev_var rfl (h1.mono s2))) ⟨n, gs, tk, rfl, hl, inj, hm, rfl⟩)) (fun j σ1 G1 M1 => ∃ x y, σ1 = [some v0, some v1, some (.ref p), x, y, none] ∧ M1 = Ms rs (arFj gs tk j) ∧ G1 p = some (.lst (rs.map V.ref))) dj2 (fun G3 s3 dj3 => ⟨none, none, rfl, rfl, s3 _ _ hp⟩) ?_ ?_ ?_
  · rintro j σ1 G3 G4 M3 s4 ⟨x, y, e1, rfl, e4⟩
    exact ⟨x, y, e1, rfl, s4 _ _ e4⟩
  · rintro G3 s3 j d σ1 G4 M3 x hd s4 dj4 ⟨x3, x4, rfl, rfl, hp⟩ hx
    rw [List.getElem?_map] at hd
    cases ea : (arS gs tk)[j]? with
    | none => rw [ea] at hd; cases hd
    | some a =>
    rw [ea] at hd
    cases hd
    have hag := (mem_arS.mp (List.mem_of_getElem? ea)).1
    refine g_two dj4 hx fun v3 v4 h3 h4 => ?_
    cases h3
    cases h4
    have har : a.2 < rs.length := by omega
    have hr2 : rs[a.2]? = some rs[a.2] := List.getElem?_eq_getElem har
    have hF := arFj_at (gs := gs) (T := tk) (j := j) hag
    have hlk := Ms_at nd hr2 hF
    have hr := Ms_out nd (by rw [arFj_len]; exact hrs) dj4
    refine ⟨.ref p, rfl, .int ((a.2 : Nat) : Int), rfl, p, rs.map V.ref, _, .ref rs[a.2], rfl, rfl, .of (jn_at dj4 hp), atI_nat (map_at hr2), .inl ⟨rfl, _, .of (jn_in hlk)⟩, .int ((a.1 : Nat) : Int), rfl, _, _, _, rfl, rfl, jn_in hlk, ?_, ?_⟩
    · rw [List.length_map, List.length_map]
      have l1 := List.length_filter_le (fun b : Nat × Nat => decide (b.2 = a.2)) ((arS gs tk).take j)
      have l2 := arS_len gs tk
      rw [List.length_take] at l1
      exact Nat.lt_of_le_of_lt (by omega : _ ≤ 2000) (by decide)
    · have e1 : ((((arS gs tk).take j).filter fun b => decide (b.2 = a.2)).map (·.1)).map iV ++ [V.int ((a.1 : Nat) : Int)] = ((((arS gs tk).take j).filter fun b => decide (b.2 = a.2)).map (·.1) ++ [a.1]).map iV := by rw [List.map_append]; rfl
      rw [e1, Ms_upd nd hr2 (by rw [arFj_len]; exact hag), ← arFj_step ea]
      exact nd_of rfl s4 (Ms_dj hr) ⟨_, _, rfl, rfl, hp⟩
  · rintro σ1 G3 M3 s3 dj3 ⟨x3, x4, rfl, rfl, hp⟩
    rw [List.length_map] at dj3 ⊢
    have ee : arFj gs tk (arS gs tk).length = arF gs tk := by
      unfold arFj arF
      rw [List.take_length]
    rw [ee] at dj3 ⊢
    refine ⟨.ref p, rfl, q _ _ ((s2.trans s3).trans (same_jn dj3)) (.lst (.of (jn_at dj3 hp)) (dpall_get (by rw [List.length_map, List.length_map, ← ee, arFj_len]; exact hrs) fun i x d hx hd => ?_))⟩
    rw [List.getElem?_map] at hx hd
    cases e1 : rs[i]? with
    | none => rw [e1] at hx; cases hx
    | some r =>
    cases e2 : (arF gs tk)[i]? with
    | none => rw [e2] at hd; cases hd
    | some F =>
    rw [e1] at hx
    rw [e2] at hd
    cases hx
    cases hd
    exact .lst (.of (jn_in (Ms_at nd e1 e2))) (dp_iV F)
theorem arF_S {gs : Gs} {T : List (Option Nat)} (hm : gs.length ≤ 1000) : FsS (arF gs T) := by
  refine ⟨by unfold arF; rw [List.length_map, List.length_range]; exact hm, fun F hF => ?_⟩
  unfold arF at hF
  obtain ⟨g, _, rfl⟩ := List.mem_map.mp hF
  have l1 := List.length_filter_le (fun a : Nat × Nat => decide (a.2 = g)) (arS gs T)
  have l2 := arS_len gs T
  rw [List.length_map]
  omega
end
end Lw
/-! text D11 -/
set_option Elab.async false
set_option linter.all false
set_option maxRecDepth 100000
set_option maxHeartbeats 2000000
namespace Lw
open PySem PySem.Spec PyProof.Rows L2
/-! ### plain: one step along the orders -/
section
variable {F : Nat → List Nat} {m : Nat}
theorem Pre.take {p : List Nat} (h : Pre m F p) (i : Nat) : Pre m F (p.take i) := by
  refine ⟨h.nd.sublist (List.take_sublist i p), fun k hk => h.lt k (List.mem_of_mem_take hk), ?_⟩
  have := h.re
  rw [← List.take_append_drop i p, resp_append, Bool.and_eq_true] at this
  exact this.1
theorem nxt_down {p : List Nat} {dir : Bool} {r : List Nat} : ∀ i : Nat, i ≤ p.length → nxt F m dir (p.take i) (p.drop i) = some r → nxt F m dir [] p = some r
  | 0, _, h => h
  | i + 1, hi, h => by
    refine nxt_down i (by omega) ?_
    have hlt : i < p.length := by omega
    rw [List.drop_eq_getElem_cons hlt]
    show (match nxt F m dir (p.take i ++ [p[i]]) (p.drop (i + 1)) with
      | some r => some r
      | none => _) = some r
    rw [List.take_append_getElem hlt, h]
theorem nxt_here {p : List Nat} {dir : Bool} {i : Nat} (hlt : i < p.length) (h : nxt F m dir (p.take (i + 1)) (p.drop (i + 1)) = none) : nxt F m dir (p.take i) (p.drop i) = (pick dir (goods F dir (cands m (p.take i)) p[i])).map fun g => p.take i ++ g :: gone F dir (p.drop (i + 1)).length ((cands m (p.take i)).filter fun k => !decide (k = g)) := by
  rw [List.drop_eq_getElem_cons hlt]
  show (match nxt F m dir (p.take i ++ [p[i]]) (p.drop (i + 1)) with
    | some r => some r
    | none => _) = _
  rw [List.take_append_getElem hlt, h]
theorem pick_none {dir : Bool} {l : List Nat} : pick dir l = none ↔ l = [] := by
  unfold pick
  cases dir with
  | true => rw [if_pos rfl]; exact List.head?_eq_none_iff
  | false => rw [if_neg (by decide)]; exact List.getLast?_eq_none_iff
theorem pick_mem {dir : Bool} {l : List Nat} {g : Nat} (h : pick dir l = some g) : g ∈ l := by
  unfold pick at h
  cases dir with
  | true => rw [if_pos rfl] at h; exact List.mem_of_mem_head? h
  | false => rw [if_neg (by decide)] at h; exact List.mem_of_getLast? h
theorem pick_at {dir : Bool} {l : List Nat} {g : Nat} (h : pick dir l = some g) : atI (l.map nD) (if dir then 0 else -1) = some (nD g) := by
  unfold pick at h
  cases dir with
  | true =>
    rw [if_pos rfl] at h ⊢
    cases l with
    | nil => cases h
    | cons a l =>
      cases h
      exact atI_head _ _
  | false =>
    rw [if_neg (by decide)] at h ⊢
    exact atI_last' (by rw [List.getLast?_map, h]; rfl)
/-- what is left, in order -/
theorem left_eq {p : List Nat} (hp : PermOf m p) (i : Nat) : srtN (p.drop i) = cands m (p.take i) := by
  have nd : (p.take i ++ p.drop i).Nodup := by rw [List.take_append_drop]; exact hp.1
  have na := List.nodup_append.mp nd
  have ndc : (cands m (p.take i)).Nodup := (cands_lt _).imp fun h => Nat.ne_of_lt h
  have hperm : (p.drop i).Perm (cands m (p.take i)) := (List.perm_ext_iff_of_nodup na.2.1 ndc).mpr fun k => by
    rw [mem_cands]
    have hk := hp.2 k
    rw [← List.take_append_drop i p, List.mem_append] at hk
    constructor
    · intro h
      exact ⟨hk.mp (.inr h), fun q => na.2.2 k q k h rfl⟩
    · rintro ⟨h1, h2⟩
      rcases hk.mpr h1 with q | q
      · exact absurd q h2
      · exact q
  refine ((srtN_perm _).trans hperm).eq_of_pairwise (le := (· ≤ ·)) (fun a b _ _ h1 h2 => Nat.le_antisymm h1 h2) (srtN_sorted _) ((cands_lt _).imp fun h => Nat.le_of_lt h)
end
theorem cut_from {α : Type} {xs : List α} {i : Nat} (h : i ≤ xs.length) : cutD xs (some ((i : Nat) : Int)) none = xs.drop i := by
  unfold cutD
  rw [HT.sIx_nat, HT.sIx_none, Nat.min_eq_left h]
  exact List.take_of_length_le (by rw [List.length_drop]; omega)
theorem cut_to {α : Type} {xs : List α} {i : Nat} (h : i ≤ xs.length) : cutD xs none (some ((i : Nat) : Int)) = xs.take i := by
  unfold cutD
  rw [HT.sIx_nat, HT.sIx_none, Nat.min_eq_left h]
  rfl
/-! ### the errors' class -/
structure CN (K : PySem.W.Frag) (mg : Str → Option Value) (C : Addr) : Prop where
  g : mg "CanNot" = some (.ref C)
  x : PySem.W.excIn K C He.veBase "ValueError.__new__" = true
  k : PySem.W.keepIn K (.ref C) = true
  b : PySem.W.subIn K (.ref C) (.type "BaseException") = some true
  t : PySem.W.typeIn K (.ref C) = some (.type "type")
  e : PySem.W.exmOne K (.ref C) (.ref C) = some true
  c : ExcC K C
  v : PySem.W.kitOne K (.ref C) (.type "ValueError") = some true
section
variable {P : Program} {w : World} {K : PySem.W.Frag} {mg : Str → Option Value} {base : Heap} {x : Str} {st : Stmt} {N ps : List Str} {k : Nat} {C : Addr}
theorem Dn.prX {R : List PyData → Option PyData → Prop} (D : Dn K mg x st ps) (S : FnScope N ps (defScope st)) (hl : ∀ ds d, R ds d → ds.length = ps.length)
    (hbody : ∀ (f : Addr) (cdv : Value) (A : Around) (outer : List Env) (s : Shared) (H : Hp) (E : XK) (vs : List V) (ds : List PyData) (o : Option PyData), Room k (A.deeper (envOfC x (defScope st) s.heap.objs.size f cdv)) → R ds o → DpAll K H vs ds →
      ∃ t, PSs (cxOf (L2.CX P w) P w K mg base N x (defScope st) f cdv A outer s H E) (defBody st) t ∧ ∀ Q : VK, (∀ d, o = some d → ∀ v H', Same H H' → Dp K H' v d → Q v H') → (o = none → ∀ H', Same H H' → E (.ref C) none H') → t { nx := fun _ H' => Q .non H', rt := Q } (start N vs) (jn H [])) : CalX P w K mg base (k + 1) x (PrX K C R) := by
  refine D.calX S (fun vs H Q E h => ?_) (fun f cdv A outer s H vs Q E hr h => ?_)
  · obtain ⟨ds, d, h1, h2, _⟩ := h
    rw [h1.len]
    exact hl ds d h2
  · obtain ⟨ds, d, h1, h2, h3, h4⟩ := h
    obtain ⟨t, k1, k2⟩ := hbody f cdv A outer s H E vs ds d hr h2 h1
    exact ⟨t, k1, k2 Q h3 h4⟩
end
section
variable {X : Cx} {k j : Nat} {x : Str} {sp : Sp} {p pos : Pos} {e : Expr} {es : List Expr} {t : TA} {E : XK} {C : Addr}
theorem pe_cx (c : CalX X.prog X.w X.K X.mg X.base k x sp) (hr : Room j X.A) (hk : k ≤ j) (hg : Gl X x) (tk : Takes X (fun cls d _ H => E cls d H)) (ha : PA X (e :: es) t)
    (hdb : (x == ("__debug__" : Str)) = false := by decide) (he : starEach (e :: es) X.env = (false, eval e X.env) :: starEach es X.env := by rfl) (hpl : (backTo pos (starEach es X.env)).any (·.1) = false := by rfl) :
    PE X (.Call (.Name x p) (e :: es) [] pos) (tCall sp [] E t) := by
  obtain ⟨f, fd, ps, F, hm, kp, b⟩ := c.ex
  exact pe_call F (hr.mono hk) hg hm kp.1 b .nil (passes_call tk fun _ _ _ _ h => h) ha hdb he hpl
/-- raise CanNot() -/
theorem ps_cn {W : WX} (K : PySem.W.Frag) (cn : CN K X.mg C) (hc : X.calm = true) (tk : Takes X W) (hK : X.K = K := by rfl) (hg : Gl X "CanNot" := by rfl) : PS X (.Raise (some (.Call (.Name "CanNot" p) [] [] pos)) none pos2) (fun _ σ H => W (.ref C) none σ H) := by
  subst hK
  exact ps_raise hc tk (pmk_own0 PySem.F.excBase_ValueError cn.x cn.g cn.k (raises_own cn.b cn.t) hg)
end
section
variable {K : PySem.W.Frag} {M : Mh} {σ : L2.St} {G : Hp} {ta : TA} {ds : List PyData} {o : Option PyData} {D : Ends} {E : XK} {C : Addr} {us : TS} {R : List PyData → Option PyData → Prop}
/-- return f(..), f may raise -/
theorem st_retX (ha : EvA K [] ta σ G ds) (hR : R ds o) (q : ∀ d, o = some d → ∀ v G2, Same G G2 → Dp K G2 v d → D.rt v G2) (qe : o = none → ∀ G2, Same G G2 → E (.ref C) none G2) : tRet (tCall (PrX K C R) [] E ta) D σ (jn G []) := ha G (Same.refl _) (dj_nil _) _ fun vs G2 s2 dj2 hv =>
  ⟨ds, o, by rw [List.append_nil]; exact hv, hR, fun d e v H' s3 hd => q d e v H' (s2.trans s3) hd, fun e H' s3 => qe e H' (s2.trans s3)⟩
theorem g_three {i k j : Nat} {x : V} {d1 d2 d3 : PyData} {Q : L2.St → Hp → Prop} (dj : Dj G M) (h : Dp K G x (.tuple [d1, d2, d3])) (q : ∀ v1 v2 v3, Dp K G v1 d1 → Dp K G v2 d2 → Dp K G v3 d3 → Q (((σ.set i (some v1)).set k (some v2)).set j (some v3)) (jn G M)) :
    gTup K 3 (gCons (gName i) (gCons (gName k) (gCons (gName j) gNil))) x σ (jn G M) Q := by
  obtain ⟨a, xs, rfl, h1, h2⟩ := dp_tup h
  obtain ⟨v1, v2, v3, rfl, k1, k2, k3⟩ := dp3 h2
  exact ⟨a, _, rfl, sq_jnT dj h1, rfl, _, _, rfl, _, _, rfl, _, _, rfl, rfl, q _ _ _ k1 k2 k3⟩
end
section
variable {P : Program} {w : World} {K : PySem.W.Frag} {mg : Str → Option Value} {base : Heap} {C : Addr}
/-! ### sure_its_order(web, outcome, order) -/
def itsO (n : Nat) (gs : Gs) (T : List (Option Nat)) (p : List Nat) : Option PyData := if outc gs p = T then some (.tuple [webD n gs, tD T, rD p]) else none
def R_its : List PyData → Option PyData → Prop := fun ds o => ∃ (x y z : PyData) (n : Nat) (gs : Gs) (T : List (Option Nat)) (p : List Nat), ds = [x, y, z] ∧ Had x y n gs T ∧ As 1 z (rD p) ∧ PermOf gs.length p ∧ o = itsO n gs T p
theorem sc_sure_its_order : FnScope ["web", "outcome", "order", "own", "told", "row"] ["web", "outcome", "order"] (defScope s_sure_its_order) := ⟨rfl, rfl, rfl, by decide +kernel, rfl, by decide +kernel, by decide +kernel⟩
theorem c_sure_its_order (cn : CN K mg C) (D : Dn K mg "sure_its_order" s_sure_its_order ["web", "outcome", "order"]) (k_sure_had : Cal P w K mg base 6 "sure_had" (Pr K R_sure_had)) (k_sure_order : Cal P w K mg base 5 "sure_order" (Pr K R_sure_order)) (k_seated_in : Cal P w K mg base 3 "seated_in" (Pr K R_seated_in)) : CalX P w K mg base 7 "sure_its_order" (PrX K C R_its) := by
  refine D.prX sc_sure_its_order (fun ds d h => by obtain ⟨_, _, _, _, _, _, _, rfl, _⟩ := h; rfl) (fun f cdv A outer s H E vs ds d hr h hv => ?_)
  obtain ⟨x, y, z, n, gs, tk, p, rfl, had, hz, hp, rfl⟩ := h
  obtain ⟨v0, v1, v2, rfl, h0, h1, h2⟩ := dp3 hv
  have hm := had.tk.le
  refine ⟨_, (pss_cons (ps_asg (pe_ca k_sure_had hr (by decide) rfl (pa_cons (pv 0) (pa_cons (pv 1) pa_nil))) (pg2 K rfl (pgs_cons (pg_name (i := 3) sc_sure_its_order.nd rfl (Or.inl rfl)) (pgs_cons (pg_name (i := 4) sc_sure_its_order.nd rfl (Or.inl rfl)) pgs_nil))))
    (pss_cons (ps_set (i := 5) sc_sure_its_order.nd rfl (Or.inl rfl) (pe_ca k_sure_order hr (by decide) rfl (pa_cons (pv 3) (pa_cons (pv 2) pa_nil))))
    (pss_cons (ps_if (pt_neD K (hu64 hr) (pe_ca k_seated_in hr (by decide) rfl (pa_cons (pv 3) (pa_cons (pv 5) pa_nil))) (pv 4))
      (pss_one (ps_cn K cn rfl (takes_of rfl rfl rfl rfl)))
      pss_nil)
    (pss_one (ps_ret (pe_tup (pa_cons (pv 3) (pa_cons (pv 4) (pa_cons (pv 5) pa_nil))))))))), fun Q q qe => ?_⟩
  refine ev_call (ea_two (ev_var rfl h0) (ev_var rfl h1)) ⟨x, y, n, gs, tk, rfl, had, rfl⟩ H (Same.refl _) (dj_nil _) _ fun v G2 s2 dj2 hv => g_two dj2 hv fun v3 v4 h3 h4 => ?_
  refine s_set (ev_call (ea_two (ev_var rfl h3) (ev_var rfl (h2.mono s2))) ⟨n, gs, z, p, rfl, hz, hp, hm, rfl⟩) dj2 fun v5 G3 s3 dj3 h5 => ?_
  have sl : (outc gs p).length ≤ 1000 := by rw [outc_length]; exact hm
  have tl : tk.length ≤ 1000 := by rw [had.tk.sound.len]; exact hm
  unfold itsO at q qe
  refine s_if (eb_test (ev_neD (d := tD (outc gs p)) (e := tD tk) (Ev.toJ (ev_call (ea_two (ev_var rfl (h3.mono s3)) (ev_var rfl h5)) ⟨n, gs, p, rfl, hp, hm, rfl⟩)) (Ev.toJ (ev_var rfl (h4.mono s3))) (sh_t sl) (sh_t tl))) dj3 (fun b G4 s4 dj4 => ?_) (fun b G4 s4 dj4 => ?_)
  · rw [eqv_tD, Bool.not_eq_true', decide_eq_false_iff_not] at b
    rw [if_neg b] at qe
    exact qe rfl _ (s2.trans (s3.trans s4))
  · rw [eqv_tD, Bool.not_eq_false', decide_eq_true_eq] at b
    rw [if_pos b] at q
    exact fin (q _ rfl) (s2.trans (s3.trans s4)) (ev_tup (ea_cons (ev_var rfl (h3.mono (s3.trans s4))) (ea_two (ev_var rfl (h4.mono (s3.trans s4))) (ev_var rfl (h5.mono s4)))) (by show 3 ≤ 100000; decide))
end
end Lw
/-! text D12 -/
set_option Elab.async false
set_option linter.all false
set_option maxRecDepth 100000
set_option maxHeartbeats 2000000
namespace Lw
open PySem PySem.Spec PyProof.Rows L2
section
variable {P : Program} {w : World} {K : PySem.W.Frag} {mg : Str → Option Value} {base : Heap} {C : Addr}
/-- for .. in range(m - 1, -1, -1) -/
theorem ei_down {M : Mh} {σ : L2.St} {G : Hp} {ta tb tc : TE} {m : Nat} (h : Ev K M ta σ G (.int ((m : Nat) - 1))) (hb : Ev K M tb σ G (.int (-1))) (hc : Ev K M tc σ G (.int (-1))) (hm : m ≤ 100000) : EvI K M (iRng3 (tCons ta (tCons tb (tCons tc tNil)))) σ G ((List.range m).map fun j => nD (m - 1 - j)) Any := fun G1 s dj R r => h G1 s dj _ fun v G2 s2 dj2 hv => hb G2 (s.trans s2) dj2 _ fun v2 G3 s3 dj3 hv2 => hc G3 (s.trans (s2.trans s3)) dj3 _ fun v3 G4 s4 dj4 hv3 => by
  cases hv
  cases hv2
  cases hv3
  have l : ((List.range m).map fun j => nD (m - 1 - j)).length = m := by rw [List.length_map, List.length_range]
  refine ⟨((m : Nat) : Int) - 1, -1, -1, m, rfl, ?_, r _ G4 (s2.trans (s3.trans s4)) dj4 ⟨fun i G5 M5 hi _ _ _ => ?_, fun G5 M5 _ _ _ => ?_, fun i G5 M5 x H' hi s5 dj5 _ y => ?_⟩⟩
  · have := RgC.neg (i := ((m : Nat) : Int) - 1) (j := -1) (by omega) (by omega) (by decide) (by decide)
    rw [show (((m : Nat) : Int) - 1 - -1).toNat = m by omega] at this
    exact this
  · rw [l] at hi
    exact hi
  · rw [l]
    exact Nat.le_refl _
  · rw [l] at hi
    obtain ⟨e1, e2⟩ := y
    refine ⟨G5, nD (m - 1 - i), e1, Same.refl _, dj5, by rw [List.getElem?_map, List.getElem?_range hi]; rfl, ?_⟩
    rw [e2, show ((m : Nat) : Int) - 1 + (i : Nat) * (-1) = ((m - 1 - i : Nat) : Int) by omega]
    exact .int _
/-! ### beside_order(web, outcome, order, is_next) -/
def besO (gs : Gs) (T : List (Option Nat)) (dir : Bool) (p : List Nat) : Option PyData := (nxt (fOf (arF gs T)) gs.length dir [] p).map rD
def R_bes : List PyData → Option PyData → Prop := fun ds o => ∃ (n : Nat) (gs : Gs) (T : List (Option Nat)) (p : List Nat) (dir : Bool), ds = [webD n gs, tD T, rD p, .bool dir] ∧ Tk gs T ∧ PermOf gs.length p ∧ outc gs p = T ∧ o = besO gs T dir p
theorem sc_beside_order : FnScope ["web", "outcome", "order", "is_next", "firsts", "place", "left", "now", "goods", "guest"] ["web", "outcome", "order", "is_next"] (defScope s_beside_order) := ⟨rfl, rfl, rfl, by decide +kernel, rfl, by decide +kernel, by decide +kernel⟩
theorem c_beside_order (T : Tx mg) (cn : CN K mg C) (D : Dn K mg "beside_order" s_beside_order ["web", "outcome", "order", "is_next"]) (k_firsts_in : Cal P w K mg base 3 "firsts_in" (Pr K R_firsts_in)) (k_free_of : Cal P w K mg base 1 "free_of" (Pr K R_free_of)) (k_gone_on : Cal P w K mg base 2 "gone_on" (Pr K R_gone_on)) (k_others_left : Cal P w K mg base 1 "others_left" (Pr K R_others_left)) : CalX P w K mg base 4 "beside_order" (PrX K C R_bes) := by
  refine D.prX sc_beside_order (fun ds d h => by obtain ⟨_, _, _, _, _, rfl, _⟩ := h; rfl) (fun f cdv A outer s H E vs ds d hr h hv => ?_)
  obtain ⟨n, gs, tk, p, dir, rfl, ok, hp, hop, rfl⟩ := h
  obtain ⟨v0, v1, v2, v3, rfl, h0, h1, h2, h3⟩ := dp4 hv
  cases h3
  have hm := ok.le
  have S := ok.sound
  have gg := ok.going
  have hl := S.len
  have pl := hp.length
  have FS := arF_S (T := tk) hm
  have FL : (arF gs tk).length = gs.length := (arF_ok gs tk).len
  have pre : Pre gs.length (fOf (arF gs tk)) p := ⟨hp.1, fun k hk => (hp.2 k).mp hk, ((arF_ok gs tk).iff S hp).mp hop⟩
  refine ⟨_, (pss_cons (ps_set (i := 4) sc_beside_order.nd rfl (Or.inl rfl) (pe_ca k_firsts_in hr (by decide) rfl (pa_cons (pv 0) (pa_cons (pv 1) pa_nil))))
    (pss_cons (ps_for (passes_of rfl) rfl (pi_range3 (by rfl) T.range_ (pa_cons (pe_op op_sub (pe_len K T (pv 2)) pe_int) (pa_cons (pe_un un_neg pe_int) (pa_cons (pe_un un_neg pe_int) pa_nil)))) (pg_name (i := 5) sc_beside_order.nd rfl (Or.inl rfl))
      (pss_cons (ps_set (i := 6) sc_beside_order.nd rfl (Or.inl rfl) (pe_tupOf K T (pe_sortedT K T (pe_slT K (pv 2) (po_some (pv 5)) po_none))))
      (pss_cons (ps_set (i := 7) sc_beside_order.nd rfl (Or.inr rfl) (xT K (pv 2) (pv 5)))
      (pss_cons (slcF 9 8 sc_beside_order.nd (wi_list K (pe_ca k_free_of hr (by decide) rfl (pa_cons (pv 6) (pa_cons (pv 4) pa_nil)))) (fun _ _ _ _ _ => (PW.pt (pw_and (pt_cmpR op_ne (pv 9) (pv 7) (nomark _)) (pw_and1 (pt_cmpR op_eq (pe_cmpR op_gt (pv 9) (pv 7) (nomark _)) (pv 3) (nomark _)))))) (fun _ _ _ _ _ => (pv 9)))
      (pss_one (ps_if (pt_neD K (hu64 hr) (pv 8) (pe_lst pa_nil))
        (pss_cons (ps_set (i := 9) sc_beside_order.nd rfl (Or.inl rfl) (pe_ifExp (pt_val (pv 3)) (xL K (pv 8) pe_int) (xL K (pv 8) (pe_un un_neg pe_int))))
        (pss_one (ps_ret (pe_catT K (pe_catT K (pe_slT K (pv 2) po_none (po_some (pv 5))) (pe_tup (pa_cons (pv 9) pa_nil))) (pe_ca k_gone_on hr (by decide) rfl (pa_cons (pe_ca k_others_left hr (by decide) rfl (pa_cons (pv 6) (pa_cons (pv 9) pa_nil))) (pa_cons (pv 4) (pa_cons (pv 3) pa_nil))))))))
        pss_nil))))))
    (pss_one (ps_cn K cn rfl (takes_of rfl rfl rfl rfl))))), fun Q q qe => ?_⟩
  refine s_set (ev_call (ea_two (ev_var rfl h0) (ev_var rfl h1)) ⟨n, gs, tk, rfl, hl, S.injT, hm, rfl⟩) (dj_nil _) fun v4 G2 s2 dj2 h4 => ?_
  have h2 := h2.mono s2
  refine s_for (ds := (List.range gs.length).map fun j => nD (gs.length - 1 - j)) (ei_down (ev_I0 (z := .int ((gs.length : Nat) - 1)) (ev_lenT (ev_var rfl h2)) ev_int (fun _ => by rw [List.length_map, pl]; exact .int _)) (ev_neg ev_int) (ev_neg ev_int) (by omega)) (fun j σ1 G1 M1 => M1 = [] ∧ (∃ x5 x6 x7 x8 x9, σ1 = [some v0, some v1, some v2, some (.bl dir), some v4, x5, x6, x7, x8, x9]) ∧ nxt (fOf (arF gs tk)) gs.length dir (p.take (gs.length - j)) (p.drop (gs.length - j)) = none) dj2 (fun _ _ _ => ⟨rfl, ⟨none, none, none, none, none, rfl⟩, ?_⟩) (fun _ _ _ _ _ _ h => h) ?_ ?_
  · rw [Nat.sub_zero, List.drop_of_length_le (by omega)]
    rfl
  · rintro G3 s3 j d σ1 G4 M3 x hd s4 dj4 ⟨rfl, ⟨x5, x6, x7, x8, x9, rfl⟩, hN⟩ hx
    have hj : j < gs.length := by
      have := (List.getElem?_eq_some_iff.mp hd).1
      rw [List.length_map, List.length_range] at this
      exact this
    rw [List.getElem?_map, List.getElem?_range hj] at hd
    cases hd
    cases hx
    obtain ⟨i, hi⟩ : ∃ i, i = gs.length - 1 - j := ⟨_, rfl⟩
    rw [← hi]
    have hip : i < p.length := by omega
    rw [show gs.length - j = i + 1 by omega] at hN
    have h2 := h2.mono (s3.trans s4)
    have h4 := h4.mono (s3.trans s4)
    -- left
    refine s_set (K := K) (d := rD (cands gs.length (p.take i))) (ev_tupOf (ds := (cands gs.length (p.take i)).map nD) (EvL.toS (EvM.toL ?_))) dj4 fun v6 G5 s5 dj5 h6 => ?_
    · rw [← left_eq hp i]
      refine evm_sortedT ?_
      have := ev_slT (K := K) (M := []) (ta := tVar 2) (to := tPart (tVar 5)) (th := tNoPart) (σ := [some v0, some v1, some v2, some (.bl dir), some v4, some (.int ((i : Nat) : Int)), x6, x7, x8, x9]) (G := G4) (ev_var rfl h2) (eo_some (K := K) (ev_var rfl (.int _))) eo_none
      rw [cut_from (by rw [List.length_map]; omega), ← List.map_drop] at this
      exact this
    have h2 := h2.mono s5
    have h4 := h4.mono s5
    -- now
    refine s_set (K := K) (d := nD p[i]) (ev_ixT (ev_var rfl h2) (ev_var rfl (.int _)) (atI_nat (map_at (List.getElem?_eq_getElem hip)))) dj5 fun v7 G6 s6 dj6 h7 => ?_
    cases h7
    have h2 := h2.mono s6
    have h4 := h4.mono s6
    have h6 := h6.mono s6
    have cl := cands_le gs.length (p.take i)
    have fl := List.length_filter_le (fun g => !((fOf (arF gs tk)) g).any fun o => decide (o ∈ cands gs.length (p.take i))) (cands gs.length (p.take i))
    -- goods
    refine s_set (K := K) (d := lD (goods (fOf (arF gs tk)) dir (cands gs.length (p.take i)) p[i])) (EvM.toE (evm_lcN (fr (fOf (arF gs tk)) (cands gs.length (p.take i))) nD _ nD (ei_list (ev_call (ea_two (ev_var rfl h6) (ev_var rfl h4)) ⟨cands gs.length (p.take i), arF gs tk, rfl, fun g hg => by rw [FL]; exact (mem_cands.mp hg).1, by omega, FS, rfl⟩)) (by unfold fr; omega) fun g hg Da acc hDa G7 y s7 dj7 hy => ⟨rfl, ?_, fun _ => ev_var rfl hy⟩)) dj6 fun v8 G7 s7 dj7 h8 => ?_
    · cases hy
      have := eb_and (eb_test (ev_neI (K := K) (M := (Da, acc) :: []) (ta := tVar 9) (tb := tVar 7) (σ := ((wipe [some v0, some v1, some v2, some (.bl dir), some v4, some (.int ((i : Nat) : Int)), some v6, some (.int ((p[i] : Nat) : Int)), x8, x9] [9]).set 9 (some (.int ((g : Nat) : Int))))) (G := G7) (ev_var rfl (.int _)) (ev_var rfl (.int _)))) fun _ => eb_test (ev_eqB (K := K) (M := (Da, acc) :: []) (ta := tOp (rI0 fun x y => .bl (decide (x > y))) (tVar 9) (tVar 7)) (tb := tVar 3) (σ := ((wipe [some v0, some v1, some v2, some (.bl dir), some v4, some (.int ((i : Nat) : Int)), some v6, some (.int ((p[i] : Nat) : Int)), x8, x9] [9]).set 9 (some (.int ((g : Nat) : Int))))) (G := G7) (ev_I0 (ev_var rfl (.int _)) (ev_var rfl (.int _)) (fun _ => .bl _)) (ev_var rfl (.bl dir)))
      rw [nat_dec, show decide (((g : Nat) : Int) > ((p[i] : Nat) : Int)) = decide (p[i] < g) from decide_eq_decide.mpr (by omega)] at this
      exact this
    have gl := List.length_filter_le (fun g => !decide (g = p[i]) && (decide (p[i] < g) == dir)) (fr (fOf (arF gs tk)) (cands gs.length (p.take i)))
    have gl2 : (goods (fOf (arF gs tk)) dir (cands gs.length (p.take i)) p[i]).length ≤ 1000 := by
      unfold goods
      unfold fr at gl ⊢
      omega
    refine st_if (eb_neL (K := K) (l := goods (fOf (arF gs tk)) dir (cands gs.length (p.take i)) p[i]) (Ev.toJ (ev_var rfl h8)) gl2) dj7 (fun b G8 s8 dj8 => ?_) (fun b G8 s8 dj8 => ?_)
    · have ne : goods (fOf (arF gs tk)) dir (cands gs.length (p.take i)) p[i] ≠ [] := by simpa using b
      cases hg : pick dir (goods (fOf (arF gs tk)) dir (cands gs.length (p.take i)) p[i]) with
      | none => exact absurd (pick_none.mp hg) ne
      | some g =>
        have hgf : g ∈ fr (fOf (arF gs tk)) (cands gs.length (p.take i)) := (List.mem_filter.mp (pick_mem hg)).1
        have e := nxt_here (F := fOf (arF gs tk)) (m := gs.length) (dir := dir) hip hN
        rw [hg] at e
        have e := nxt_down i (by omega) e
        unfold besO at q
        rw [e] at q
        have h8 := h8.mono s8
        have at_ := pick_at hg
        refine s_set (K := K) (d := nD g) (ev_if (b := dir) (eb_B (K := K) (ev_var rfl (.bl dir))) (fun z => ?_) (fun z => ?_)) dj8 fun v9 G9 s9 dj9 h9 => ?_
        · subst z
          exact ev_ixL (Ev.toS (ev_var rfl h8)) ev_int at_
        · subst z
          exact ev_ixL (Ev.toS (ev_var rfl h8)) (ev_neg ev_int) at_
        · have h2 := h2.mono (s7.trans (s8.trans s9))
          have h4 := h4.mono (s7.trans (s8.trans s9))
          have h6 := h6.mono (s7.trans (s8.trans s9))
          have sl := ev_slT (K := K) (M := []) (ta := tVar 2) (to := tNoPart) (th := tPart (tVar 5)) (σ := [some v0, some v1, some v2, some (.bl dir), some v4, some (.int ((i : Nat) : Int)), some v6, some (.int ((p[i] : Nat) : Int)), some v8, some v9]) (G := G9) (ev_var rfl h2) eo_none (eo_some (K := K) (ev_var rfl (.int _)))
          rw [cut_to (by rw [List.length_map]; omega), ← List.map_take] at sl
          have tl : (p.take i).length = i := by rw [List.length_take]; omega
          have dl : (p.drop (i + 1)).length = gs.length - (i + 1) := by rw [List.length_drop, pl]
          have gol : ∀ (k : Nat) (l : List Nat), (gone (fOf (arF gs tk)) dir k l).length ≤ k := fun k => by
            induction k with
            | zero => intro l; exact Nat.le_refl _
            | succ k ih =>
              intro l
              show (match pick dir (fr (fOf (arF gs tk)) l) with
                | none => []
                | some g => g :: gone (fOf (arF gs tk)) dir k (l.filter fun k => !decide (k = g))).length ≤ k + 1
              cases pick dir (fr (fOf (arF gs tk)) l) with
              | none => exact Nat.zero_le _
              | some g => exact Nat.succ_le_succ (ih _)
          have gl3 := gol (gs.length - (i + 1)) (cands gs.length (p.take i ++ [g]))
          refine fin (q _ rfl) (s2.trans (s3.trans (s4.trans (s5.trans (s6.trans (s7.trans (s8.trans s9))))))) (ev_catT (ev_catT sl (ev_tup (ea_one (ev_var rfl h9)) (by show 1 ≤ 100000; decide)) (by show _ + 1 ≤ 100000; rw [List.length_map, tl]; omega)) (es := (gone (fOf (arF gs tk)) dir (gs.length - (i + 1)) (cands gs.length (p.take i ++ [g]))).map nD) (ev_call (ea_cons (ev_call (ea_two (ev_var rfl h6) (ev_var rfl h9)) ⟨cands gs.length (p.take i), g, rfl, by omega, rfl⟩) (ea_two (ev_var rfl h4) (ev_var rfl (.bl dir)))) ⟨gs.length, gs.length - (i + 1), p.take i ++ [g], arF gs tk, dir, by rw [cands_snoc], gg, (pre.take i).snoc gg.1 hgf, by rw [List.length_append, tl]; show i + 1 + _ = _; omega, FL, FS, rfl⟩) (by rw [List.length_append, List.length_map, List.length_map, tl]; show i + 1 + _ ≤ _; omega)) ?_
          show _ = rD (p.take i ++ g :: gone (fOf (arF gs tk)) dir (p.drop (i + 1)).length ((cands gs.length (p.take i)).filter fun k => !decide (k = g)))
          rw [cands_snoc, dl]
          unfold rD
          rw [List.map_append, List.map_cons, List.append_assoc]
          rfl
    · have e0 : goods (fOf (arF gs tk)) dir (cands gs.length (p.take i)) p[i] = [] := by simpa using b
      refine nt_of rfl (s4.trans (s5.trans (s6.trans (s7.trans s8)))) dj8 ⟨rfl, ⟨_, _, _, _, _, rfl⟩, ?_⟩
      rw [show gs.length - (j + 1) = i by omega, nxt_here hip hN, e0]
      unfold pick
      cases dir <;> rfl
  · rintro σ1 G3 M3 s3 dj3 ⟨rfl, _, hN⟩
    rw [List.length_map, List.length_range, Nat.sub_self] at hN
    unfold besO at qe
    refine qe ?_ _ (s2.trans s3)
    show (nxt (fOf (arF gs tk)) gs.length dir [] p).map rD = none
    rw [show nxt (fOf (arF gs tk)) gs.length dir [] p = none from hN]
    rfl
end
end Lw
/-! text K8 -/
set_option Elab.async false
set_option linter.all false
set_option maxRecDepth 100000
set_option maxHeartbeats 2000000
namespace Lw
open PySem PySem.Spec PyProof.Rows L2
/-! ### tuples that are known to have no dict of their own -/
def Nd (H : Hp) (v : V) : Prop := ∃ (a : Addr) (o : Obj) (xs : List V), v = .ref a ∧ H a = some (.frz o (.tup xs)) ∧ o.dict = none
theorem Nd.mono {H H' : Hp} {v : V} (s : Same H H') (h : Nd H v) : Nd H' v := by
  obtain ⟨a, o, xs, e, h1, h2⟩ := h
  exact ⟨a, o, xs, e, s _ _ h1, h2⟩
theorem Nd.jn {G : Hp} {M : Mh} {v : V} (dj : Dj G M) (h : Nd G v) : Nd (jn G M) v := h.mono fun b o e => jn_at dj e
section
variable {X : Cx} {a b : Expr} {ta tb : TE} {p p2 pos : Pos}
def rTupOfN (K : PySem.W.Frag) : List V → Hp → VK → Prop := fun xs H Q => ∃ p ys, xs = [.ref p] ∧ SqL K H p ys ∧ ∀ l o, H l = none → o.dict = none → Q (.ref l) (upd H l (.frz o (.tup ys)))
theorem call_tuple_ofN : CallR X (.type "tuple") (rTupOfN X.K) := by
  intro pins s σ H xs us Q I r h
  obtain ⟨p, ys, rfl, hq, q⟩ := h
  obtain ⟨u, rfl, rx⟩ := vals1 r
  cases rx
  obtain ⟨its, r', pl, hz⟩ := I.list hq
  have hlen := r'.length
  refine call_tuple_list pl.isList (fun h' kp => ?_) (by simp only [List.size_toArray] <;> omega)
  have I1 : Inv X pins σ H { s with heap := h' } := I.kept (t' := s.toks) kp
  have I2 : Inv X pins σ (upd H h'.objs.size (.frz { cls := .type "tuple", data := .seq its.toArray } (.tup ys))) { s with heap := h'.push { cls := .type "tuple", data := .seq its.toArray } } :=
    I1.laid (t' := s.toks) (fun b o e => Heap.get?_push_of_some _ e) (Nat.le_refl _) (show ObjOk X.prog X.w _ _ _ (.frz _ (.tup ys)) from ⟨Heap.get?_push_size _ rfl, hz, its, r', IsTup.new _ _⟩)
  exact ⟨.ref h'.objs.size, _, I2, rfl, q _ _ (I1.hok.fresh (Nat.le_refl _)) rfl⟩
theorem pe_tupOfN (K : PySem.W.Frag) (T : Tx X.mg) (ha : PE X a ta) (hK : X.K = K := by rfl) (hg : Gl X "tuple" := by rfl) (he : starEach (a :: []) X.env = (false, eval a X.env) :: starEach [] X.env := by rfl) : PE X (.Call (.Name "tuple" p) [a] [] pos) (tCB (rTupOfN K) (tCons ta tNil)) := by
  subst hK
  exact pe_callTy call_tuple_ofN hg T.tuple_ (by decide +kernel) (pa_cons ha pa_nil he) (by decide) (by decide) he rfl
/-- t + u: a new tuple where neither is empty -/
def rCatN (K : PySem.W.Frag) : R2 := fun x y H Q => ∃ a b xs ys, x = .ref a ∧ y = .ref b ∧ SqT K H a xs ∧ SqT K H b ys ∧ xs.length + ys.length ≤ sizeLine ∧ (xs = [] → Q (.ref b) H) ∧ (xs ≠ [] → ys = [] → Q (.ref a) H) ∧ (xs ≠ [] → ys ≠ [] → ∀ p o, H p = none → o.dict = none → Q (.ref p) (upd H p (.frz o (.tup (xs ++ ys)))))
theorem op_catN : OpR X (binaryOp .Add) (rCatN X.K) := by
  intro pins s σ H x y v u Q I rx ry h
  obtain ⟨a, b, xs, ys, rfl, rfl, ha, hb, hz, q0, q1, q2⟩ := h
  by_cases hx : xs = []
  · exact op_catA pins s σ H _ _ v u Q I rx ry ⟨a, b, xs, ys, rfl, rfl, ha, hb, hz, q0, fun n => absurd hx n, fun n => absurd hx n⟩
  · cases rx
    cases ry
    obtain ⟨its, r1, p1, _⟩ := I.tuple ha
    obtain ⟨its2, r2, p2, _⟩ := I.tuple hb
    refine HT.cat_tup p1 p2 (fun z => hx (r1.nil_iff.mp z)) (fun z => ⟨.ref a, H, I, rfl, q1 hx (r2.nil_iff.mp z)⟩) (fun z => ?_) (by rw [← r1.length, ← r2.length]; exact hz)
    refine ⟨.ref s.heap.objs.size, _, I.laid (t' := s.toks) (o := .frz { cls := .type "tuple", data := .seq (its ++ its2).toArray } (.tup (xs ++ ys))) (fun b ob q => Heap.get?_push_of_some _ q) (Nat.le_refl _) ?_, rfl, q2 hx (fun w => z (r2.nil_iff.mpr w)) _ _ (I.hok.fresh (Nat.le_refl _)) ?_⟩
    · exact ⟨Heap.get?_push_size _ rfl, by rw [List.length_append]; exact hz, _, r1.append r2, IsTup.new _ _⟩
    · rfl
theorem pe_catN (K : PySem.W.Frag) (ha : PE X a ta) (hb : PE X b tb) (hK : X.K = K := by rfl) : PE X (.BinOp a .Add b pos) (tOp (rCatN K) ta tb) := by
  subst hK
  exact pe_op op_catN ha hb
/-- o.m(e, ..), o such a tuple -/
def tBMT (r : V → List V → Hp → VK → Prop) (to : TE) (t : TA) : TE := fun σ H Q => to σ H fun x H1 => Nd H1 x ∧ t σ H1 fun xs H2 => r x xs H2 Q
theorem pe_bmT {o e : Expr} {es : List Expr} {to : TE} {t : TA} {name : Str} {apos cpos : Pos} {id : String} {r : V → List V → Hp → VK → Prop} (slot : Slot "tuple" name id) (hty : typeOf (.builtin id) = pure (.type "method_descriptor")) (hm : MtR X id r) (ho : PE X o to) (ha : PA X (e :: es) t)
    (hbase : attributeBase o name X.env (eval o X.env) = eval o X.env := by rfl)
    (hfew : ((backTo cpos (starEach (e :: es) X.env)).all (fun x => !x.1) && (backToKw cpos (keywordEach [] X.env)).all (fun x => x.1.isSome)
      && decide ((e :: es).length + ([] : List Keyword).length + (if ([] : List Keyword).isEmpty then 0 else 1) < 30)) = true := by rfl)
    (hline : (apos.endLine == cpos.line) = true := by rfl) (hs : starEach (e :: es) X.env = (false, eval e X.env) :: starEach es X.env := by rfl) (hplain : (backTo cpos (starEach es X.env)).any (·.1) = false := by rfl) :
    PE X (.Call (.Attribute o name apos) (e :: es) [] cpos) (tBMT r to t) := by
  refine ⟨fun pins s σ H Q I h => ?_⟩
  refine wpAny_Call_method_late hbase hfew hline rfl (thn (ho.run pins s σ H _ I h) fun v s1 ⟨x, H1, I1, r1, ty, q1⟩ => ?_)
  obtain ⟨a, oo, xs, rfl, ho1, hd⟩ := ty
  cases r1
  obtain ⟨e1, _, its, r2, it⟩ := I1.hok a _ ho1
  refine ⟨"tuple", id, PySem.F.plainAttrs_tuple, slot, hty, it.typeIs, fun z e => by cases e; exact ⟨oo, e1, hd⟩, ?_⟩
  have hA := ha.run cpos pins s1 σ H1 _ I1 q1
  rw [hs] at hA ⊢
  refine Calls.callWith_builtin (by show (false || (backTo cpos (starEach es X.env)).any (·.1)) = false; rw [hplain] <;> rfl) (Calls.evalArgs_plain ?_)
  exact thn hA fun us s2 ⟨vs, H2, I2, r2, q2⟩ => hm pins s2 σ H2 (.ref a) vs (.ref a) us Q I2 rfl r2 q2
end
section
variable {K : PySem.W.Frag} {M : Mh} {σ : L2.St} {G : Hp} {ta tb te : TE} {ds es : List PyData}
theorem EvR.imp {P1 P2 : V → Hp → Prop} (h : EvR M te σ G P1) (hi : ∀ v G, P1 v G → P2 v G) : EvR M te σ G P2 := fun G1 s dj Q q => h G1 s dj Q fun v G2 s2 dj2 hv => q v G2 s2 dj2 (hi v G2 hv)
theorem evr_E {d : PyData} (h : EvR M te σ G (fun v G2 => Dp K G2 v d ∧ Nd G2 v)) : Ev K M te σ G d := h.imp fun _ _ z => z.1
theorem evr_tupOfN (ha : EvS K M ta σ G ds) : EvR M (tCB (rTupOfN K) (tCons ta tNil)) σ G (fun v G2 => Dp K G2 v (.tuple ds) ∧ Nd G2 v) := fun G1 s dj Q q => ha G1 s dj _ fun p xs G2 s2 dj2 h1 h2 =>
  ⟨p, xs, rfl, h1, fun l o hl ho => by
    have n := jn_none hl
    rw [jn_new hl]
    exact q _ _ (s2.trans (same_new n.2)) (dj_new dj2 hl) ⟨.tup (.inl (.inr ⟨o, upd_same⟩)) (h2.mono (same_new n.2)), l, o, xs, rfl, upd_same, ho⟩⟩
theorem evr_catN (ha : Ev K M ta σ G (.tuple ds)) (hb : Ev K M tb σ G (.tuple es)) (hl : ds.length + es.length ≤ 100000) : EvR M (tOp (rCatN K) ta tb) σ G (fun v G2 => Dp K G2 v (.tuple (ds ++ es)) ∧ (ds ≠ [] → es ≠ [] → Nd G2 v)) := fun G1 s dj Q q =>
  ha G1 s dj _ fun x G2 s2 dj2 hx => hb G2 (s.trans s2) dj2 _ fun y G3 s3 dj3 hy => by
    have hx := hx.mono s3
    have hx' := hx
    have hy' := hy
    obtain ⟨a, xs, rfl, h1, h2⟩ := dp_tup hx
    obtain ⟨b, ys, rfl, k1, k2⟩ := dp_tup hy
    refine ⟨a, b, xs, ys, rfl, rfl, sq_jnT dj3 h1, sq_jnT dj3 k1, by rw [h2.len, k2.len]; exact sz hl, fun e => ?_, fun _ e => ?_, fun _ _ p o hp ho => ?_⟩
    · subst e
      cases h2
      exact q _ G3 (s2.trans s3) dj3 ⟨hy', fun z => absurd rfl z⟩
    · subst e
      cases k2
      rw [List.append_nil] at q
      exact q _ G3 (s2.trans s3) dj3 ⟨hx', fun _ z => absurd rfl z⟩
    · have n := jn_none hp
      rw [jn_new hp]
      exact q _ _ ((s2.trans s3).trans (same_new n.2)) (dj_new dj3 hp) ⟨.tup (.inl (.inr ⟨o, upd_same⟩)) ((h2.app k2).mono (same_new n.2)), fun _ _ => ⟨p, o, _, rfl, upd_same, ho⟩⟩
theorem idxOf_cast (p : List Nat) (a : Nat) : (p.map fun k => ((k : Nat) : Int)).idxOf ((a : Nat) : Int) = p.idxOf a := by
  induction p with
  | nil => rfl
  | cons b p ih =>
    rw [List.map_cons, List.idxOf_cons, List.idxOf_cons, ih]
    by_cases e : b = a
    · subst e
      simp
    · have : (((b : Nat) : Int) == ((a : Nat) : Int)) = false := beq_eq_false_iff_ne.mpr fun q => e (Int.ofNat.inj q)
      have h2 : (b == a) = false := beq_eq_false_iff_ne.mpr e
      rw [this, h2]
/-- t.index(n) -/
theorem ev_idxT {i : Nat} {v : V} {p : List Nat} {a : Nat} (h : σ[i]? = some (some v)) (hd : Dp K G v (rD p)) (hn : Nd G v) (hb : Ev K M tb σ G (nD a)) (ha : a ∈ p) : Ev K M (tBMT (rIdxT K) (tVar i) (tCons tb tNil)) σ G (nD (p.idxOf a)) := fun G1 s dj Q q => by
  refine ⟨v, h, (hn.mono s).jn dj, hb G1 s dj _ fun y G2 s2 dj2 hy => ?_⟩
  cases hy
  obtain ⟨l, xs, rfl, k1, k2⟩ := dp_tup (hd.mono (s.trans s2))
  rw [nat_map] at k2
  rw [k2.ints] at k1
  refine ⟨l, _, _, rfl, rfl, sq_jnT dj2 k1, List.mem_map.mpr ⟨a, ha, rfl⟩, ?_⟩
  rw [idxOf_cast]
  exact q _ G2 s2 dj2 (.int _)
end
end Lw
/-! text D13 -/
set_option Elab.async false
set_option linter.all false
set_option maxRecDepth 100000
set_option maxHeartbeats 2000000
namespace Lw
open PySem PySem.Spec PyProof.Rows L2
section
variable {P : Program} {w : World} {K : PySem.W.Frag} {mg : Str → Option Value} {base : Heap} {C : Addr}
theorem s_asgX {σ : L2.St} {G : Hp} {ta : TA} {ds : List PyData} {o : Option PyData} {D : Ends} {E : XK} {us : TS} {g : TG} {R : List PyData → Option PyData → Prop} (ha : EvA K [] ta σ G ds) (hR : R ds o) (q : ∀ d, o = some d → ∀ v G2, Same G G2 → Dp K G2 v d → g v σ (jn G2 []) (us D)) (qe : o = none → ∀ G2, Same G G2 → E (.ref C) none G2) : tSeq (tAsg (tCall (PrX K C R) [] E ta) g) us D σ (jn G []) := ha G (Same.refl _) (dj_nil _) _ fun vs G2 s2 dj2 hv =>
  ⟨ds, o, by rw [List.append_nil]; exact hv, hR, fun d e v H' s3 hd => q d e v H' (s2.trans s3) hd, fun e H' s3 => qe e H' (s2.trans s3)⟩
theorem s_asg {M : Mh} {σ : L2.St} {G : Hp} {te : TE} {d : PyData} {D : Ends} {us : TS} {g : TG} (h : Ev K M te σ G d) (dj : Dj G M) (q : ∀ v G2, Same G G2 → Dj G2 M → Dp K G2 v d → g v σ (jn G2 M) (us D)) : tSeq (tAsg te g) us D σ (jn G M) := h G (Same.refl _) dj _ fun v G2 s dj2 hv => q v G2 s dj2 hv
/-! ### next_order, order_ahead -/
def nearO (gs : Gs) (T : List (Option Nat)) (dir : Bool) (p : List Nat) : Option PyData := if outc gs p = T then besO gs T dir p else none
def R_near (dir : Bool) : List PyData → Option PyData → Prop := fun ds o => ∃ (x y z : PyData) (n : Nat) (gs : Gs) (T : List (Option Nat)) (p : List Nat), ds = [x, y, z] ∧ Had x y n gs T ∧ As 1 z (rD p) ∧ PermOf gs.length p ∧ o = nearO gs T dir p
theorem sc_next_order : FnScope ["web", "outcome", "order", "own", "told", "row"] ["web", "outcome", "order"] (defScope s_next_order) := ⟨rfl, rfl, rfl, by decide +kernel, rfl, by decide +kernel, by decide +kernel⟩
theorem sc_order_ahead : FnScope ["web", "outcome", "order", "own", "told", "row"] ["web", "outcome", "order"] (defScope s_order_ahead) := ⟨rfl, rfl, rfl, by decide +kernel, rfl, by decide +kernel, by decide +kernel⟩
theorem pure_near {dir : Bool} {vs : List V} {ds : List PyData} {o : Option PyData} {H : Hp} {E : XK} (h : R_near dir ds o) (hv : DpAll K H vs ds) (N : List Str) (hN : ∀ v0 v1 v2, start N [v0, v1, v2] = [some v0, some v1, some v2, none, none, none]) (Q : VK) (q : ∀ d, o = some d → ∀ v H', Same H H' → Dp K H' v d → Q v H') (qe : o = none → ∀ H', Same H H' → E (.ref C) none H') :
    tSeq (tAsg (tCall (PrX K C R_its) [] E (tCons (tVar 0) (tCons (tVar 1) (tCons (tVar 2) tNil)))) (gTup K 3 (gCons (gName 3) (gCons (gName 4) (gCons (gName 5) gNil))))) (tRet (tCall (PrX K C R_bes) [] E (tCons (tVar 3) (tCons (tVar 4) (tCons (tVar 5) (tCons (tC (.bl dir)) tNil)))))) { nx := fun _ H' => Q .non H', rt := Q } (start N vs) (jn H []) := by
  obtain ⟨x, y, z, n, gs, tk, p, rfl, had, hz, hp, rfl⟩ := h
  obtain ⟨v0, v1, v2, rfl, h0, h1, h2⟩ := dp3 hv
  rw [hN]
  unfold nearO at q qe
  refine s_asgX (K := K) (C := C) (ds := [x, y, z]) (o := itsO n gs tk p) (ea_cons (ev_var rfl h0) (ea_two (ev_var rfl h1) (ev_var rfl h2))) ⟨x, y, z, n, gs, tk, p, rfl, had, hz, hp, rfl⟩ (fun d e v H' s3 hd => ?_) (fun e H' s3 => ?_)
  · unfold itsO at e
    by_cases ho : outc gs p = tk
    · rw [if_pos ho] at e q qe
      cases e
      refine g_three (M := []) (dj_nil _) hd fun v3 v4 v5 h3 h4 h5 => ?_
      exact st_retX (K := K) (ea_cons (ev_var rfl h3) (ea_cons (ev_var rfl h4) (ea_two (ev_var rfl h5) ev_bl))) ⟨n, gs, tk, p, dir, rfl, had.tk, hp, ho, rfl⟩ (fun d e v G3 s4 hd => q d e v G3 (s3.trans s4) hd) (fun e G3 s4 => qe e G3 (s3.trans s4))
    · rw [if_neg ho] at e
      cases e
  · unfold itsO at e
    by_cases ho : outc gs p = tk
    · rw [if_pos ho] at e
      cases e
    · rw [if_neg ho] at qe
      exact qe rfl _ s3
theorem c_next_order (D : Dn K mg "next_order" s_next_order ["web", "outcome", "order"]) (k_its : CalX P w K mg base 7 "sure_its_order" (PrX K C R_its)) (k_bes : CalX P w K mg base 4 "beside_order" (PrX K C R_bes)) : CalX P w K mg base 8 "next_order" (PrX K C (R_near true)) := by
  refine D.prX sc_next_order (fun ds d h => by obtain ⟨_, _, _, _, _, _, _, rfl, _⟩ := h; rfl) (fun f cdv A outer s H E vs ds d hr h hv => ?_)
  exact ⟨_, (pss_cons (ps_asg (pe_cx k_its hr (by decide) rfl (takes_of rfl rfl rfl rfl) (pa_cons (pv 0) (pa_cons (pv 1) (pa_cons (pv 2) pa_nil)))) (pg3 K rfl (pgs_cons (pg_name (i := 3) sc_next_order.nd rfl (Or.inl rfl)) (pgs_cons (pg_name (i := 4) sc_next_order.nd rfl (Or.inl rfl)) (pgs_cons (pg_name (i := 5) sc_next_order.nd rfl (Or.inl rfl)) pgs_nil)))))
    (pss_one (ps_ret (pe_cx k_bes hr (by decide) rfl (takes_of rfl rfl rfl rfl) (pa_cons (pv 3) (pa_cons (pv 4) (pa_cons (pv 5) (pa_cons pe_bl pa_nil)))))))), fun Q q qe => pure_near h hv _ (fun _ _ _ => rfl) Q q qe⟩
theorem c_order_ahead (D : Dn K mg "order_ahead" s_order_ahead ["web", "outcome", "order"]) (k_its : CalX P w K mg base 7 "sure_its_order" (PrX K C R_its)) (k_bes : CalX P w K mg base 4 "beside_order" (PrX K C R_bes)) : CalX P w K mg base 8 "order_ahead" (PrX K C (R_near false)) := by
  refine D.prX sc_order_ahead (fun ds d h => by obtain ⟨_, _, _, _, _, _, _, rfl, _⟩ := h; rfl) (fun f cdv A outer s H E vs ds d hr h hv => ?_)
  exact ⟨_, (pss_cons (ps_asg (pe_cx k_its hr (by decide) rfl (takes_of rfl rfl rfl rfl) (pa_cons (pv 0) (pa_cons (pv 1) (pa_cons (pv 2) pa_nil)))) (pg3 K rfl (pgs_cons (pg_name (i := 3) sc_order_ahead.nd rfl (Or.inl rfl)) (pgs_cons (pg_name (i := 4) sc_order_ahead.nd rfl (Or.inl rfl)) (pgs_cons (pg_name (i := 5) sc_order_ahead.nd rfl (Or.inl rfl)) pgs_nil)))))
    (pss_one (ps_ret (pe_cx k_bes hr (by decide) rfl (takes_of rfl rfl rfl rfl) (pa_cons (pv 3) (pa_cons (pv 4) (pa_cons (pv 5) (pa_cons pe_bl pa_nil)))))))), fun Q q qe => pure_near h hv _ (fun _ _ _ => rfl) Q q qe⟩
/-! ### least_order, greatest_order -/
def R_end (dir : Bool) : List PyData → PyData → Prop := fun ds d => ∃ (x y : PyData) (n : Nat) (gs : Gs) (T : List (Option Nat)), ds = [x, y] ∧ Had x y n gs T ∧ d = rD (gone (fOf (arF gs T)) dir gs.length (List.range gs.length))
theorem sc_least_order : FnScope ["web", "outcome", "own", "told"] ["web", "outcome"] (defScope s_least_order) := ⟨rfl, rfl, rfl, by decide +kernel, rfl, by decide +kernel, by decide +kernel⟩
theorem sc_greatest_order : FnScope ["web", "outcome", "own", "told"] ["web", "outcome"] (defScope s_greatest_order) := ⟨rfl, rfl, rfl, by decide +kernel, rfl, by decide +kernel, by decide +kernel⟩
theorem pure_end {dir : Bool} {vs : List V} {ds : List PyData} {d : PyData} {H : Hp} (h : R_end dir ds d) (hv : DpAll K H vs ds) (N : List Str) (hN : ∀ v0 v1, start N [v0, v1] = [some v0, some v1, none, none]) (Q : VK) (q : ∀ v H', Same H H' → Dp K H' v d → Q v H') :
    tSeq (tAsg (tCall (fr_ (Pr K R_sure_had)) [] E0 (tCons (tVar 0) (tCons (tVar 1) tNil))) (gTup K 2 (gCons (gName 2) (gCons (gName 3) gNil)))) (tRet (tCall (fr_ (Pr K R_gone_on)) [] E0 (tCons (tCall (fr_ (Pr K R_all_of)) [] E0 (tCons (tVar 2) tNil)) (tCons (tCall (fr_ (Pr K R_firsts_in)) [] E0 (tCons (tVar 2) (tCons (tVar 3) tNil))) (tCons (tC (.bl dir)) tNil))))) { nx := fun _ H' => Q .non H', rt := Q } (start N vs) (jn H []) := by
  obtain ⟨x, y, n, gs, tk, rfl, had, rfl⟩ := h
  obtain ⟨v0, v1, rfl, h0, h1⟩ := dp2 hv
  rw [hN]
  have hm := had.tk.le
  have S := had.tk.sound
  have ec : Ev K [] (tCall (fr_ (Pr K R_sure_had)) [] E0 (tCons (tVar 0) (tCons (tVar 1) tNil))) [some v0, some v1, none, none] H (.tuple [webD n gs, tD tk]) := ev_call (ea_two (ev_var rfl h0) (ev_var rfl h1)) ⟨x, y, n, gs, tk, rfl, had, rfl⟩
  refine s_asg ec (dj_nil _) fun v G2 s2 dj2 hv => g_two dj2 hv fun v2 v3 h2 h3 => ?_
  refine fin q s2 (ev_call (R := R_gone_on) (ea_cons (ev_call (ea_one (ev_var rfl h2)) ⟨n, gs, rfl, hm, rfl⟩) (ea_two (ev_call (ea_two (ev_var rfl h2) (ev_var rfl h3)) ⟨n, gs, tk, rfl, S.len, S.injT, hm, rfl⟩) ev_bl)) ⟨gs.length, gs.length, [], arF gs tk, dir, by rw [cands_nil], had.tk.going, pre_nil, by simp, (arF_ok gs tk).len, arF_S hm, rfl⟩) ?_
  rw [cands_nil]
theorem c_least_order (D : Dn K mg "least_order" s_least_order ["web", "outcome"]) (k_sure_had : Cal P w K mg base 6 "sure_had" (Pr K R_sure_had)) (k_gone_on : Cal P w K mg base 2 "gone_on" (Pr K R_gone_on)) (k_all_of : Cal P w K mg base 1 "all_of" (Pr K R_all_of)) (k_firsts_in : Cal P w K mg base 3 "firsts_in" (Pr K R_firsts_in)) : Cal P w K mg base 7 "least_order" (Pr K (R_end true)) := by
  refine D.pr sc_least_order (fun ds d h => by obtain ⟨_, _, _, _, _, rfl, _⟩ := h; rfl) (fun f cdv A outer s H E vs ds d hr h hv => ?_)
  exact ⟨_, (pss_cons (ps_asg (pe_ca k_sure_had hr (by decide) rfl (pa_cons (pv 0) (pa_cons (pv 1) pa_nil))) (pg2 K rfl (pgs_cons (pg_name (i := 2) sc_least_order.nd rfl (Or.inl rfl)) (pgs_cons (pg_name (i := 3) sc_least_order.nd rfl (Or.inl rfl)) pgs_nil))))
    (pss_one (ps_ret (pe_ca k_gone_on hr (by decide) rfl (pa_cons (pe_ca k_all_of hr (by decide) rfl (pa_cons (pv 2) pa_nil)) (pa_cons (pe_ca k_firsts_in hr (by decide) rfl (pa_cons (pv 2) (pa_cons (pv 3) pa_nil))) (pa_cons pe_bl pa_nil))))))), fun Q q => pure_end h hv _ (fun _ _ => rfl) Q q⟩
theorem c_greatest_order (D : Dn K mg "greatest_order" s_greatest_order ["web", "outcome"]) (k_sure_had : Cal P w K mg base 6 "sure_had" (Pr K R_sure_had)) (k_gone_on : Cal P w K mg base 2 "gone_on" (Pr K R_gone_on)) (k_all_of : Cal P w K mg base 1 "all_of" (Pr K R_all_of)) (k_firsts_in : Cal P w K mg base 3 "firsts_in" (Pr K R_firsts_in)) : Cal P w K mg base 7 "greatest_order" (Pr K (R_end false)) := by
  refine D.pr sc_greatest_order (fun ds d h => by obtain ⟨_, _, _, _, _, rfl, _⟩ := h; rfl) (fun f cdv A outer s H E vs ds d hr h hv => ?_)
  exact ⟨_, (pss_cons (ps_asg (pe_ca k_sure_had hr (by decide) rfl (pa_cons (pv 0) (pa_cons (pv 1) pa_nil))) (pg2 K rfl (pgs_cons (pg_name (i := 2) sc_greatest_order.nd rfl (Or.inl rfl)) (pgs_cons (pg_name (i := 3) sc_greatest_order.nd rfl (Or.inl rfl)) pgs_nil))))
    (pss_one (ps_ret (pe_ca k_gone_on hr (by decide) rfl (pa_cons (pe_ca k_all_of hr (by decide) rfl (pa_cons (pv 2) pa_nil)) (pa_cons (pe_ca k_firsts_in hr (by decide) rfl (pa_cons (pv 2) (pa_cons (pv 3) pa_nil))) (pa_cons pe_bl pa_nil))))))), fun Q q => pure_end h hv _ (fun _ _ => rfl) Q q⟩
end
end Lw
/-! text D14 -/
set_option Elab.async false
set_option linter.all false
set_option maxRecDepth 100000
set_option maxHeartbeats 2000000
namespace Lw
open PySem PySem.Spec PyProof.Rows L2
section
variable {P : Program} {w : World} {K : PySem.W.Frag} {mg : Str → Option Value} {base : Heap} {C : Addr}
/-- data out, a new tuple without a dict -/
def PrN (K : PySem.W.Frag) (R : List PyData → PyData → Prop) : Sp := fun vs H Q _ => ∃ ds d, DpAll K H vs ds ∧ R ds d ∧ ∀ v H', Same H H' → Dp K H' v d → Nd H' v → Q v H'
theorem Dn.prN {x : Str} {st : Stmt} {N ps : List Str} {k : Nat} {R : List PyData → PyData → Prop} (D : Dn K mg x st ps) (S : FnScope N ps (defScope st)) (hl : ∀ ds d, R ds d → ds.length = ps.length)
    (hbody : ∀ (f : Addr) (cdv : Value) (A : Around) (outer : List Env) (s : Shared) (H : Hp) (E : XK) (vs : List V) (ds : List PyData) (d : PyData), Room k (A.deeper (envOfC x (defScope st) s.heap.objs.size f cdv)) → R ds d → DpAll K H vs ds →
      ∃ t, PSs (cxOf CX0 P w K mg base N x (defScope st) f cdv A outer s H E).nox (defBody st) t ∧ ∀ Q : VK, (∀ v H', Same H H' → Dp K H' v d → Nd H' v → Q v H') → t { nx := fun _ H' => Q .non H', rt := Q } (start N vs) (jn H [])) : Cal P w K mg base (k + 1) x (PrN K R) := by
  refine D.cal S (fun vs H Q E h => ?_) (fun f cdv A outer s H vs Q E hr h => ?_)
  · obtain ⟨ds, d, h1, h2, _⟩ := h
    rw [h1.len]
    exact hl ds d h2
  · obtain ⟨ds, d, h1, h2, h3⟩ := h
    obtain ⟨t, k1, k2⟩ := hbody f cdv A outer s H E vs ds d hr h2 h1
    exact ⟨t, k1, k2 Q h3⟩
theorem evr_callN {M : Mh} {σ : L2.St} {G : Hp} {ta : TA} {ds : List PyData} {d : PyData} {E : XK} {R : List PyData → PyData → Prop} (ha : EvA K M ta σ G ds) (hR : R ds d) : EvR M (tCall (fr_ (PrN K R)) [] E ta) σ G (fun v G2 => Dp K G2 v d ∧ Nd G2 v) := fun G1 s dj Q q => ha G1 s dj _ fun vs G2 s2 dj2 hv =>
  ⟨G2, M, rfl, dj2, ds, d, by rw [List.append_nil]; exact hv, hR, fun v H' s3 hd hn dj3 => q v H' (s2.trans s3) dj3 ⟨hd, hn⟩⟩
theorem dn_mono (d : PyData) (v : V) (G1 G2 : Hp) (s : Same G1 G2) (h : Dp K G1 v d ∧ Nd G1 v) : Dp K G2 v d ∧ Nd G2 v := ⟨h.1.mono s, h.2.mono s⟩
theorem finN {σ : L2.St} {G : Hp} {te : TE} {d e : PyData} {D : Ends} {H : Hp} {Q : VK} (q : ∀ v H', Same H H' → Dp K H' v d → Nd H' v → Q v H') (s : Same H G) (h : EvR [] te σ G (fun v G2 => Dp K G2 v e ∧ Nd G2 v)) (he : e = d := by rfl) (hD : D.rt = Q := by rfl) : tRet te D σ (jn G []) := by
  subst hD
  subst he
  exact h G (Same.refl _) (dj_nil _) _ fun v G2 s2 _ hv => q v G2 (s.trans s2) hv.1 hv.2
theorem evr_ifT {M : Mh} {σ : L2.St} {G : Hp} {t : TT} {ta tb : TE} {Pp : V → Hp → Prop} (h : EvB M t σ G true) (h1 : EvR M ta σ G Pp) : EvR M (tIf t ta tb) σ G Pp := fun G1 s dj Q q => h G1 s dj _ fun G2 s2 dj2 => iteT (h1 G2 (s.trans s2) dj2 Q fun v G3 s3 dj3 hv => q v G3 (s2.trans s3) dj3 hv)
theorem s_ifN {M : Mh} {σ : L2.St} {G : Hp} {t : TT} {b : Bool} {ts us : TS} {D : Ends} (h : EvB M t σ G b) (dj : Dj G M) (h1 : b = true → ∀ G2, Same G G2 → Dj G2 M → ts { D with nx := us D } σ (jn G2 M)) (h2 : b = false → ∀ G2, Same G G2 → Dj G2 M → us D σ (jn G2 M)) : tSeq (tIfS t ts tNext) us D σ (jn G M) := s_if h dj h1 h2
/-- a, b = x, y -/
theorem s_parR {M : Mh} {σ : L2.St} {G : Hp} {ta tb : TE} {P1 P2 : V → Hp → Prop} {D : Ends} {us : TS} {i j : Nat} (h1 : EvR M ta σ G P1) (m1 : ∀ v G1 G2, Same G1 G2 → P1 v G1 → P1 v G2) (h2 : ∀ G2, Same G G2 → EvR M tb σ G2 P2) (dj : Dj G M) (q : ∀ v w G2, Same G G2 → Dj G2 M → P1 v G2 → P2 w G2 → us D ((σ.set i (some v)).set j (some w)) (jn G2 M)) : tSeq (tPar i j (tCons ta (tCons tb tNil))) us D σ (jn G M) := h1 G (Same.refl _) dj _ fun v G2 s2 dj2 hv => h2 G2 s2 G2 (Same.refl _) dj2 _ fun w G3 s3 dj3 hw => ⟨v, w, rfl, q v w G3 (s2.trans s3) dj3 (m1 _ _ _ s3 hv) hw⟩
/-- tupled of a list or tuple -/
def R_tupledN : List PyData → PyData → Prop := fun ds d => ∃ x xs, ds = [x] ∧ (x = .list xs ∨ x = .tuple xs) ∧ Lv 1 x ∧ d = tupN 1 x
theorem c_tupledN (T : Tx mg) (D : Dn K mg "tupled" s_tupled ["value"]) (c0 : Cal P w K mg base 1 "tupled" (Pr K (R_tupled 0))) : Cal P w K mg base 2 "tupled" (PrN K R_tupledN) := by
  refine D.prN sc_tupled (fun ds d h => by obtain ⟨x, xs, rfl, _⟩ := h; rfl) (fun f cdv A outer s H E vs ds d hr h hv => ?_)
  obtain ⟨x, xs, rfl, hx, hlv, rfl⟩ := h
  obtain ⟨v0, rfl, h0⟩ := dp1 hv
  rcases hx with rfl | rfl
  · obtain ⟨hl, hx⟩ : xs.length ≤ 1000 ∧ ∀ y ∈ xs, Lv 0 y := by
      rcases hlv with h | ⟨ys, h1, h2, h3⟩
      · cases h
      · rcases h1 with h1 | h1 <;> cases h1
        exact ⟨h2, h3⟩
    refine ⟨_, pss_one (ps_ret (pe_ifExp (pt_val (pe_isi2 K T (pv 0) (pe_tup (pa_cons (ty_list T) (pa_cons (ty_tuple T) pa_nil)))))
        (pe_tupOfN K T (lcA 1 sc_tupled.nd (wi_list K (pv 0))
          (fun _ _ _ _ _ => pe_ca c0 hr (Nat.le_refl _) rfl (pa_cons (pv 1) pa_nil)))) (pv 0))), fun Q q => ?_⟩
    refine finN q (Same.refl _) (evr_ifT (eb_B (ev_isi2 (ev_var rfl h0).toJ kit_list_list kit_list_tuple rfl)) (evr_tupOfN (evm_lcA xs id (tupN 0) ?_ (by omega) fun a ha D acc hD G1 x1 s dj hx1 => ⟨rfl, ev_call (ea_one (ev_var rfl hx1)) ⟨a, rfl, hx a ha, rfl⟩⟩).toE.toS))
    rw [List.map_id]
    exact ei_list (ev_var rfl h0)
  · obtain ⟨hl, hx⟩ : xs.length ≤ 1000 ∧ ∀ y ∈ xs, Lv 0 y := by
      rcases hlv with h | ⟨ys, h1, h2, h3⟩
      · cases h
      · rcases h1 with h1 | h1 <;> cases h1
        exact ⟨h2, h3⟩
    refine ⟨_, pss_one (ps_ret (pe_ifExp (pt_val (pe_isi2 K T (pv 0) (pe_tup (pa_cons (ty_list T) (pa_cons (ty_tuple T) pa_nil)))))
        (pe_tupOfN K T (lcA 1 sc_tupled.nd (wi_tup K (pv 0))
          (fun _ _ _ _ _ => pe_ca c0 hr (Nat.le_refl _) rfl (pa_cons (pv 1) pa_nil)))) (pv 0))), fun Q q => ?_⟩
    refine finN q (Same.refl _) (evr_ifT (eb_B (ev_isi2 (ev_var rfl h0).toJ kit_tuple_list kit_tuple_tuple rfl)) (evr_tupOfN (evm_lcA xs id (tupN 0) ?_ (by omega) fun a ha D acc hD G1 x1 s dj hx1 => ⟨rfl, ev_call (ea_one (ev_var rfl hx1)) ⟨a, rfl, hx a ha, rfl⟩⟩).toE.toS))
    rw [List.map_id]
    exact ei_tup (ev_var rfl h0)
theorem c_sure_orderN (D : Dn K mg "sure_order" s_sure_order ["web", "order"]) (cT : Cal P w K mg base 2 "tupled" (PrN K R_tupledN)) (cO : Cal P w K mg base 4 "is_order_in" (Pr K R_is_order_in)) : Cal P w K mg base 5 "sure_order" (PrN K R_sure_order) := by
  refine D.prN sc_sure_order (fun ds d h => by obtain ⟨n, g, x, p, rfl, _⟩ := h; rfl) (fun f cdv A outer s H E vs ds d hr h hv => ?_)
  obtain ⟨n, gs, x, p, rfl, ⟨hx1, hx2⟩, hp, hl, rfl⟩ := h
  obtain ⟨v0, v1, rfl, h0, h1⟩ := dp2 hv
  refine ⟨_, pss_cons (ps_set (i := 2) sc_sure_order.nd rfl (Or.inl rfl) (pe_ca cT hr (by decide) rfl (pa_cons (pv 1) pa_nil)))
    (pss_cons (ps_if (pt_not (pt_val (pe_ca cO hr (by decide) rfl (pa_cons (pv 0) (pa_cons (pv 2) pa_nil))))) (pss_one ps_never) pss_nil) (pss_one (ps_ret (pv 2)))), fun Q q => ?_⟩
  have hx3 : ∃ xs, x = .list xs ∨ x = .tuple xs := by
    cases x with
    | list xs => exact ⟨xs, .inl rfl⟩
    | tuple xs => exact ⟨xs, .inr rfl⟩
    | _ => cases hx2
  obtain ⟨xs, hx3⟩ := hx3
  refine s_setR (evr_callN (ea_one (ev_var rfl h1)) ⟨x, xs, rfl, hx3, hx1, rfl⟩) (dj_nil _) fun v2 G1 s1 dj1 h2 => ?_
  rw [hx2] at h2
  exact s_ifF (eb_not (eb_B (ev_call (ea_two (ev_var rfl (h0.mono s1)) (ev_var rfl h2.1)) ⟨n, gs, p, rfl, hp, hl, rfl⟩))) dj1 rfl fun G2 s2 dj2 => finN q (s1.trans s2) (fun G3 s3 dj3 Q' q' => ⟨v2, rfl, q' v2 G3 (Same.refl _) dj3 ⟨h2.1.mono (s2.trans s3), h2.2.mono (s2.trans s3)⟩⟩)
/-! ### step_to(web, outcome, order, goal) -/
def stepO (gs : Gs) (T : List (Option Nat)) (p q : List Nat) : Option PyData := if outc gs p = T ∧ outc gs q = T then (stepk q p).map fun k => rD (swp p k) else none
def R_step : List PyData → Option PyData → Prop := fun ds o => ∃ (x y z e : PyData) (n : Nat) (gs : Gs) (T : List (Option Nat)) (p q : List Nat), ds = [x, y, z, e] ∧ Had x y n gs T ∧ As 1 z (rD p) ∧ As 1 e (rD q) ∧ PermOf gs.length p ∧ PermOf gs.length q ∧ o = stepO gs T p q
theorem sc_step_to : FnScope ["web", "outcome", "order", "goal", "own", "told", "row", "end", "place"] ["web", "outcome", "order", "goal"] (defScope s_step_to) := ⟨rfl, rfl, rfl, by decide +kernel, rfl, by decide +kernel, by decide +kernel⟩
theorem ei_rngI {M : Mh} {σ : L2.St} {G : Hp} {te : TE} {z : Int} (h : Ev K M te σ G (.int z)) (h1 : -1000000 ≤ z) (h2 : z ≤ 1000000) : EvI K M (iRng1 (tCons te tNil)) σ G ((List.range z.toNat).map nD) Any := fun G1 s dj R r => h G1 s dj _ fun v G2 s2 dj2 hv => by
  cases hv
  refine ⟨z, rfl, by omega, by omega, r _ G2 s2 dj2 ⟨fun i G3 M3 hi _ _ _ => ?_, fun G3 M3 _ _ _ => ?_, fun i G3 M3 x H' hi s3 dj3 _ y => ?_⟩⟩
  · rw [List.length_map, List.length_range] at hi
    exact hi
  · show z.toNat ≤ _
    rw [List.length_map, List.length_range]
    exact Nat.le_refl _
  · rw [List.length_map, List.length_range] at hi
    obtain ⟨e1, e2⟩ := y
    refine ⟨G3, nD i, e1, Same.refl _, dj3, by rw [List.getElem?_map, List.getElem?_range hi]; rfl, ?_⟩
    rw [e2, show (0 : Int) + (i : Nat) = ((i : Nat) : Int) by omega]
    exact .int _
theorem find_none {f : Nat → Bool} {n : Nat} (h : ∀ k, k < n → f k = false) : (List.range n).find? f = none := List.find?_eq_none.mpr fun k hk => by rw [h k (List.mem_range.mp hk)]; decide
theorem find_some {f : Nat → Bool} {n k : Nat} (hk : k < n) (h : ∀ j, j < k → f j = false) (hf : f k = true) : (List.range n).find? f = some k := by
  rw [List.find?_eq_some_iff_getElem]
  refine ⟨hf, k, by rw [List.length_range]; exact hk, List.getElem_range _, fun j hj => ?_⟩
  rw [List.getElem_range, h j hj]
  rfl
theorem getD_el {p : List Nat} {i : Nat} (h : i < p.length) : p[i]? = some (p.getD i 0) := by
  rw [List.getD_eq_getElem?_getD, List.getElem?_eq_getElem h]
  rfl
theorem c_step_to (T : Tx mg) (cn : CN K mg C) (D : Dn K mg "step_to" s_step_to ["web", "outcome", "order", "goal"]) (k_sure_had : Cal P w K mg base 6 "sure_had" (Pr K R_sure_had)) (k_sure_order : Cal P w K mg base 5 "sure_order" (PrN K R_sure_order)) (k_seated_in : Cal P w K mg base 3 "seated_in" (Pr K R_seated_in)) : CalX P w K mg base 7 "step_to" (PrX K C R_step) := by
  refine D.prX sc_step_to (fun ds d h => by obtain ⟨_, _, _, _, _, _, _, _, _, rfl, _⟩ := h; rfl) (fun f cdv A outer s H E vs ds d hr h hv => ?_)
  obtain ⟨x, y, z, e, n, gs, tk, p, pe, rfl, had, hz, he, hp, hq, rfl⟩ := h
  obtain ⟨v0, v1, v2, v3, rfl, h0, h1, h2, h3⟩ := dp4 hv
  have hm := had.tk.le
  have pl := hp.length
  refine ⟨_, (pss_cons (ps_asg (pe_ca k_sure_had hr (by decide) rfl (pa_cons (pv 0) (pa_cons (pv 1) pa_nil))) (pg2 K rfl (pgs_cons (pg_name (i := 4) sc_step_to.nd rfl (Or.inl rfl)) (pgs_cons (pg_name (i := 5) sc_step_to.nd rfl (Or.inl rfl)) pgs_nil))))
    (pss_cons (ps_par (i := 6) (j := 7) rfl sc_step_to.nd rfl rfl (by decide) rfl rfl (pa_cons (pe_ca k_sure_order hr (by decide) rfl (pa_cons (pv 4) (pa_cons (pv 2) pa_nil))) (pa_cons (pe_ca k_sure_order hr (by decide) rfl (pa_cons (pv 4) (pa_cons (pv 3) pa_nil))) pa_nil)) rfl)
    (pss_cons (ps_if (PW.pt (pw_or (pt_neD K (hu64 hr) (pe_ca k_seated_in hr (by decide) rfl (pa_cons (pv 4) (pa_cons (pv 6) pa_nil))) (pv 5)) (pw_or1 (pt_neD K (hu64 hr) (pe_ca k_seated_in hr (by decide) rfl (pa_cons (pv 4) (pa_cons (pv 7) pa_nil))) (pv 5)))))
      (pss_one (ps_cn K cn rfl (takes_of rfl rfl rfl rfl)))
      pss_nil)
    (pss_cons (ps_for (passes_of rfl) rfl (pi_range1 (by rfl) T.range_ (pa_cons (pe_op op_sub (pe_len K T (pv 6)) pe_int) pa_nil)) (pg_name (i := 8) sc_step_to.nd rfl (Or.inl rfl))
      (pss_one (ps_if (pt_cmpR op_gt (pe_bmT PySem.F.slot_tuple_index PySem.F.type_tuple_index mt_idxT (pv 7) (pa_cons (xT K (pv 6) (pv 8)) pa_nil)) (pe_bmT PySem.F.slot_tuple_index PySem.F.type_tuple_index mt_idxT (pv 7) (pa_cons (xT K (pv 6) (pe_op op_add (pv 8) pe_int)) pa_nil)) (nomark _))
        (pss_one (ps_ret (pe_catT K (pe_catT K (pe_slT K (pv 6) po_none (po_some (pv 8))) (pe_tup (pa_cons (xT K (pv 6) (pe_op op_add (pv 8) pe_int)) (pa_cons (xT K (pv 6) (pv 8)) pa_nil)))) (pe_slT K (pv 6) (po_some (pe_op op_add (pv 8) pe_int)) po_none))))
        pss_nil)))
    (pss_one (ps_cn K cn rfl (takes_of rfl rfl rfl rfl))))))), fun Q q qe => ?_⟩
  refine s_asg (ev_call (ea_two (ev_var rfl h0) (ev_var rfl h1)) ⟨x, y, n, gs, tk, rfl, had, rfl⟩) (dj_nil _) fun v G2 s2 dj2 hv => g_two dj2 hv fun v4 v5 h4 h5 => ?_
  refine s_parR (evr_callN (K := K) (M := []) (ea_two (ev_var rfl h4) (ev_var rfl (h2.mono s2))) ⟨n, gs, z, p, rfl, hz, hp, hm, rfl⟩) (dn_mono _) (fun G3 s3 => evr_callN (K := K) (M := []) (ea_two (ev_var rfl (h4.mono s3)) (ev_var rfl (h3.mono (s2.trans s3)))) ⟨n, gs, e, pe, rfl, he, hq, hm, rfl⟩) dj2 fun v6 v7 G4 s4 dj4 h6 h7 => ?_
  obtain ⟨h6, n6⟩ := h6
  obtain ⟨h7, n7⟩ := h7
  have h4 := h4.mono s4
  have h5 := h5.mono s4
  have s24 := s2.trans s4
  have sl : (outc gs p).length ≤ 1000 := by rw [outc_length]; exact hm
  have sl2 : (outc gs pe).length ≤ 1000 := by rw [outc_length]; exact hm
  have tl : tk.length ≤ 1000 := by rw [had.tk.sound.len]; exact hm
  unfold stepO at q qe
  refine s_ifN (eb_or (eb_test (ev_neD (d := tD (outc gs p)) (e := tD tk) (Ev.toJ (ev_call (ea_two (ev_var rfl h4) (ev_var rfl h6)) ⟨n, gs, p, rfl, hp, hm, rfl⟩)) (Ev.toJ (ev_var rfl h5)) (sh_t sl) (sh_t tl))) fun _ => eb_test (ev_neD (d := tD (outc gs pe)) (e := tD tk) (Ev.toJ (ev_call (ea_two (ev_var rfl h4) (ev_var rfl h7)) ⟨n, gs, pe, rfl, hq, hm, rfl⟩)) (Ev.toJ (ev_var rfl h5)) (sh_t sl2) (sh_t tl))) dj4 (fun b G5 s5 dj5 => ?_) (fun b G5 s5 dj5 => ?_)
  · rw [eqv_tD, eqv_tD] at b
    rw [if_neg (fun z => by rw [decide_eq_true z.1, decide_eq_true z.2] at b; cases b)] at qe
    exact qe rfl _ (s24.trans s5)
  · rw [eqv_tD, eqv_tD, Bool.or_eq_false_iff, Bool.not_eq_false', Bool.not_eq_false', decide_eq_true_eq, decide_eq_true_eq] at b
    rw [if_pos b] at q qe
    have h6 := h6.mono s5
    have h7 := h7.mono s5
    have n7 := n7.mono s5
    have e1 : (((gs.length : Nat) : Int) - 1).toNat = gs.length - 1 := by omega
    have hI := ei_rngI (K := K) (M := []) (te := tOp (rI0 fun i j => V.int (i - j)) (tCB (rLenQ K) (tCons (tVar 6) tNil)) (tC (V.int 1))) (σ := [some v0, some v1, some v2, some v3, some v4, some v5, some v6, some v7, none]) (G := G5) (z := ((gs.length : Nat) : Int) - 1) (ev_I0 (ev_lenT (ev_var rfl h6)) ev_int (fun _ => by rw [List.length_map, pl]; exact .int _)) (by omega) (by omega)
    rw [e1] at hI
    refine s_for hI (fun j σ1 G1 M1 => M1 = [] ∧ (∃ x8, σ1 = [some v0, some v1, some v2, some v3, some v4, some v5, some v6, some v7, x8]) ∧ ∀ k, k < j → inv pe p k = false) dj5 (fun _ _ _ => ⟨rfl, ⟨none, rfl⟩, fun k hk => by omega⟩) (fun _ _ _ _ _ _ h => h) ?_ ?_
    · rintro G6 s6 j d σ1 G7 M3 x hd s7 dj7 ⟨rfl, ⟨x8, rfl⟩, hN⟩ hx
      have hj : j < gs.length - 1 := by
        have := (List.getElem?_eq_some_iff.mp hd).1
        rw [List.length_map, List.length_range] at this
        exact this
      rw [List.getElem?_map, List.getElem?_range hj] at hd
      cases hd
      cases hx
      have h6 := h6.mono (s6.trans s7)
      have h7 := h7.mono (s6.trans s7)
      have n7 := n7.mono (s6.trans s7)
      have j1 : j < p.length := by omega
      have j2 : j + 1 < p.length := by omega
      have mem : ∀ i, i < p.length → p.getD i 0 ∈ pe := fun i hi => by
        have := (hp.2 _).mp (List.mem_of_getElem? (getD_el hi))
        exact (hq.2 _).mpr this
      have ix : ∀ {G8 : Hp}, Same G7 G8 → Ev K [] (tOp (rIxT K) (tVar 6) (tVar 8)) [some v0, some v1, some v2, some v3, some v4, some v5, some v6, some v7, some (.int ((j : Nat) : Int))] G8 (nD (p.getD j 0)) := fun s8 => ev_ixT (ev_var rfl (h6.mono s8)) (ev_var rfl (.int _)) (atI_nat (map_at (getD_el j1)))
      have inc : ∀ {G8 : Hp}, Ev K [] (tOp (rI0 fun i j => V.int (i + j)) (tVar 8) (tC (.int 1))) [some v0, some v1, some v2, some v3, some v4, some v5, some v6, some v7, some (.int ((j : Nat) : Int))] G8 (nD (j + 1)) := fun {_} => ev_I0 (ev_var rfl (.int _)) ev_int (fun _ => by show Dp _ _ (.int (((j : Nat) : Int) + 1)) (.int ((j + 1 : Nat) : Int)); rw [show ((j + 1 : Nat) : Int) = ((j : Nat) : Int) + 1 by omega]; exact .int _)
      have ix2 : ∀ {G8 : Hp}, Same G7 G8 → Ev K [] (tOp (rIxT K) (tVar 6) (tOp (rI0 fun i j => V.int (i + j)) (tVar 8) (tC (.int 1)))) [some v0, some v1, some v2, some v3, some v4, some v5, some v6, some v7, some (.int ((j : Nat) : Int))] G8 (nD (p.getD (j + 1) 0)) := fun s8 => ev_ixT (ev_var rfl (h6.mono s8)) inc (atI_nat (map_at (getD_el j2)))
      refine st_if (b := inv pe p j) ?_ dj7 (fun b G8 s8 dj8 => ?_) (fun b G8 s8 dj8 => ?_)
      · have := eb_test (ev_I0 (K := K) (M := []) (z := .bool (decide (((pe.idxOf (p.getD (j + 1) 0) : Nat) : Int) < ((pe.idxOf (p.getD j 0) : Nat) : Int)))) (g := fun i j => V.bl (decide (j < i))) (ev_idxT (i := 7) rfl h7 n7 (ix (Same.refl _)) (mem j j1)) (ev_idxT (i := 7) rfl h7 n7 (ix2 (Same.refl _)) (mem (j + 1) j2)) (fun _ => .bl _))
        rw [show decide (((pe.idxOf (p.getD (j + 1) 0) : Nat) : Int) < ((pe.idxOf (p.getD j 0) : Nat) : Int)) = inv pe p j from decide_eq_decide.mpr (by omega)] at this
        exact this
      · have ek : stepk pe p = some j := by
          unfold stepk
          rw [pl]
          exact find_some hj hN b
        rw [ek] at q
        have h6 := h6.mono s8
        have sl1 := ev_slT (K := K) (M := []) (ta := tVar 6) (to := tNoPart) (th := tPart (tVar 8)) (σ := [some v0, some v1, some v2, some v3, some v4, some v5, some v6, some v7, some (.int ((j : Nat) : Int))]) (G := G8) (ev_var rfl h6) eo_none (eo_some (K := K) (ev_var rfl (.int _)))
        rw [cut_to (by rw [List.length_map]; omega), ← List.map_take] at sl1
        have inc2 : Ev K [] (tOp (rI0 fun i j => V.int (i + j)) (tVar 8) (tC (.int 2))) [some v0, some v1, some v2, some v3, some v4, some v5, some v6, some v7, some (.int ((j : Nat) : Int))] G8 (nD (j + 2)) := ev_I0 (ev_var rfl (.int _)) ev_int (fun _ => by show Dp _ _ (.int (((j : Nat) : Int) + 2)) (.int ((j + 2 : Nat) : Int)); rw [show ((j + 2 : Nat) : Int) = ((j : Nat) : Int) + 2 by omega]; exact .int _)
        have sl2 := ev_slT (K := K) (M := []) (ta := tVar 6) (to := tPart (tOp (rI0 fun i j => V.int (i + j)) (tVar 8) (tC (.int 2)))) (th := tNoPart) (σ := [some v0, some v1, some v2, some v3, some v4, some v5, some v6, some v7, some (.int ((j : Nat) : Int))]) (G := G8) (ev_var rfl h6) (eo_some (K := K) inc2) eo_none
        rw [cut_from (by rw [List.length_map]; omega), ← List.map_drop] at sl2
        have tl1 : (p.take j).length = j := by rw [List.length_take]; omega
        have dl1 : (p.drop (j + 2)).length ≤ 1000 := by rw [List.length_drop]; omega
        refine fin (q _ rfl) (s24.trans (s5.trans (s6.trans (s7.trans s8)))) (ev_catT (ev_catT sl1 (ev_tup (ea_two (ix2 s8) (ix s8)) (by show 2 ≤ 100000; decide)) (by rw [List.length_map, tl1]; show j + 2 ≤ _; omega)) sl2 (by rw [List.length_append, List.length_map, List.length_map, tl1]; show j + 2 + _ ≤ _; omega)) ?_
        show _ = PyData.tuple ((p.take j ++ [p.getD (j + 1) 0, p.getD j 0] ++ p.drop (j + 2)).map nD)
        rw [List.map_append, List.map_append]
        rfl
      · refine nt_of rfl (s7.trans s8) dj8 ⟨rfl, ⟨_, rfl⟩, fun k hk => ?_⟩
        rcases Nat.lt_succ_iff_lt_or_eq.mp hk with hk | hk
        · exact hN k hk
        · rw [hk]
          exact b
    · rintro σ1 G6 M3 s6 dj6 ⟨rfl, _, hN⟩
      rw [List.length_map, List.length_range] at hN
      have ek : stepk pe p = none := by
        unfold stepk
        rw [pl]
        exact find_none hN
      rw [ek] at qe
      exact qe rfl _ (s24.trans (s5.trans s6))
end
end Lw
/-! text K9 -/
set_option Elab.async false
set_option linter.all false
set_option maxRecDepth 100000
set_option maxHeartbeats 2000000
namespace Lw
open PySem PySem.Spec PyProof.Rows L2
/-! ### the draw box: a list that callees change -/
def Tin (k : Nat) (ns : List V) : Prop := ∃ a b c : Int, ns = [.int a, .int b, .int c] ∧ 0 ≤ c ∧ c ≤ (k : Nat)
theorem Tin.up {k k' : Nat} {ns : List V} (h : Tin k ns) (hk : k ≤ k') : Tin k' ns := by
  obtain ⟨a, b, c, e, h1, h2⟩ := h
  exact ⟨a, b, c, e, h1, by omega⟩
def SamX (t : Addr) (H H' : Hp) : Prop := ∀ b o, b ≠ t → H b = some o → H' b = some o
theorem tin_back {G H' : Hp} {t : Addr} {ns ns' : List V} (h0 : G t = none) (s : SamX t (jn G [(t, ns)]) H') (h : H' t = some (.lst ns')) : ∃ G', H' = jn G' [(t, ns')] ∧ Same G G' ∧ G' t = none := by
  refine ⟨fun b => if b = t then none else H' b, ?_, fun b o e => ?_, by show (if t = t then none else H' t) = none; rw [if_pos rfl]⟩
  · funext b
    unfold jn
    rw [lk_cons]
    by_cases e : b = t
    · rw [if_pos e, e, h]
    · rw [if_neg e]
      show H' b = if b = t then none else H' b
      rw [if_neg e]
  · have hb : b ≠ t := ne_of_none e h0
    show (if b = t then none else H' b) = some o
    rw [if_neg hb]
    exact s b o hb (by rw [jn_out (by rw [lk_cons, if_neg hb]; rfl)]; exact e)
theorem dj_one {G : Hp} {t : Addr} {ns : List V} (h : G t = none) : Dj G [(t, ns)] := dj_put (dj_nil G) h
theorem dj_split {G : Hp} {M : Mh} {t : Addr} {ns : List V} (hm : M.lookup t = none) (dj : Dj G (M ++ [(t, ns)])) : Dj (jn G [(t, ns)]) M ∧ G t = none := by
  have ht : G t = none := dj t ns (by rw [List.lookup_append, hm, lk_cons, if_pos rfl]; rfl)
  refine ⟨fun b xs e => ?_, ht⟩
  have hb : b ≠ t := fun q => by rw [q, hm] at e; cases e
  rw [jn_out (by rw [lk_cons, if_neg hb]; rfl)]
  exact dj b xs (by rw [List.lookup_append, e]; rfl)
theorem dj_join {G : Hp} {M : Mh} {t : Addr} {ns : List V} (ht : G t = none) (dj : Dj (jn G [(t, ns)]) M) : Dj G (M ++ [(t, ns)]) := fun b xs e => by
  rw [List.lookup_append] at e
  cases q : M.lookup b with
  | some ys => exact (jn_none (dj b ys q)).2
  | none =>
    rw [q, lk_cons] at e
    by_cases hb : b = t
    · rw [hb]; exact ht
    · rw [if_neg hb] at e
      cases e
/-- te, while callees may draw -/
def EvW (M : Mh) (t : Addr) (k k' : Nat) (te : TE) (σ : L2.St) (G : Hp) (Pp : V → Hp → Prop) : Prop := ∀ G1 ns, Same G G1 → Tin k ns → Dj G1 (M ++ [(t, ns)]) → ∀ Q : VK, (∀ v G2 ns', Same G1 G2 → Tin k' ns' → Dj G2 (M ++ [(t, ns')]) → Pp v G2 → Q v (jn G2 (M ++ [(t, ns')]))) → te σ (jn G1 (M ++ [(t, ns)])) Q
/-- promises of those that draw: data and what comes, at most so many draws -/
def spW (K : PySem.W.Frag) (R : List PyData → Nat → (V → Hp → Prop) → Prop) : Sp := fun vs H Q _ => ∃ (t : Addr) (ns : List V) (ds : List PyData) (k c : Nat) (G : Hp) (Pp : V → Hp → Prop) (vs' : List V), vs = .ref t :: vs' ∧ H = jn G [(t, ns)] ∧ G t = none ∧ Tin k ns ∧ k + c ≤ 100000 ∧ DpAll K G vs' ds ∧ R ds c Pp ∧
  ∀ v G' ns', Same G G' → G' t = none → Tin (k + c) ns' → Pp v G' → Q v (jn G' [(t, ns')])
section
variable {K : PySem.W.Frag} {M : Mh} {σ : L2.St} {G : Hp} {ta : TA} {ds : List PyData} {t : Addr} {i k c : Nat} {E : XK} {R : List PyData → Nat → (V → Hp → Prop) → Prop} {Pp : V → Hp → Prop}
theorem evw_call (hi : σ[i]? = some (some (.ref t))) (ha : ∀ ns, EvA K (M ++ [(t, ns)]) ta σ G ds) (hR : R ds c Pp) (hm : M.lookup t = none) (hk : k + c ≤ 100000) : EvW M t k (k + c) (tCall (fr_ (spW K R)) [] E (tCons (tVar i) ta)) σ G Pp := fun G1 ns s tin dj Q q => by
  refine ⟨.ref t, hi, ha ns G1 s dj _ fun vs G2 s2 dj2 hv => ?_⟩
  obtain ⟨d1, ht⟩ := dj_split hm dj2
  refine ⟨jn G2 [(t, ns)], M, jn_app _ _ _, d1, t, ns, ds, k, c, G2, Pp, vs, by rw [List.append_nil], rfl, ht, tin, hk, hv, hR, fun v G' ns' s3 h0 tin' hp dj3 => ?_⟩
  rw [← jn_app]
  exact q v G' ns' (s2.trans s3) tin' (dj_join h0 dj3) hp
end
section
variable {P : Program} {w : World} {K : PySem.W.Frag} {mg : Str → Option Value} {base : Heap} {x : Str} {st : Stmt} {N ps : List Str} {k : Nat}
theorem Dn.prW {R : List PyData → Nat → (V → Hp → Prop) → Prop} (D : Dn K mg x st ps) (S : FnScope N ps (defScope st)) (hl : ∀ ds c Pp, R ds c Pp → ds.length + 1 = ps.length)
    (hbody : ∀ (f : Addr) (cdv : Value) (A : Around) (outer : List Env) (s : Shared) (H : Hp) (E : XK) (t : Addr) (vs : List V) (ds : List PyData) (c : Nat) (Pp : V → Hp → Prop), Room k (A.deeper (envOfC x (defScope st) s.heap.objs.size f cdv)) → R ds c Pp →
      ∃ tb, PSs (cxOf CX0 P w K mg base N x (defScope st) f cdv A outer s H E).nox (defBody st) tb ∧ ∀ (G : Hp) (ns : List V) (kk : Nat) (Q : VK), G t = none → Tin kk ns → kk + c ≤ 100000 → DpAll K G vs ds → (∀ v G' ns', Same G G' → G' t = none → Tin (kk + c) ns' → Pp v G' → Q v (jn G' [(t, ns')])) → tb { nx := fun _ H' => Q .non H', rt := Q } (start N (.ref t :: vs)) (jn G [(t, ns)])) : Cal P w K mg base (k + 1) x (spW K R) := by
  refine D.cal S (fun vs H Q E h => ?_) (fun f cdv A outer s H vs Q E hr h => ?_)
  · obtain ⟨t, ns, ds, k, c, G, Pp, vs', rfl, _, _, _, _, hv, hR, _⟩ := h
    rw [List.length_cons, hv.len]
    exact hl ds c Pp hR
  · obtain ⟨t, ns, ds, kk, c, G, Pp, vs', rfl, rfl, h0, tin, hk, hv, hR, q⟩ := h
    obtain ⟨tb, k1, k2⟩ := hbody f cdv A outer s _ E t vs' ds c Pp hr hR
    exact ⟨tb, k1, k2 G ns kk Q h0 tin hk hv q⟩
end
end Lw
/-! text L1 -/
set_option Elab.async false
set_option linter.all false
set_option maxRecDepth 100000
set_option maxHeartbeats 2000000
namespace Lw
open PySem PySem.Spec PyProof.Rows L2
section
variable {P : Program} {w : World} {K : PySem.W.Frag} {mg : Str → Option Value} {base : Heap}
/-- xs[z] = e -/
theorem s_setL {M : Mh} {σ : L2.St} {G : Hp} {te ti : TE} {d : PyData} {D : Ends} {us : TS} {i j : Nat} {z : Int} {p : Addr} {xs : List V} (hp : σ[i]? = some (some (.ref p))) (h : Ev K ((p, xs) :: M) te σ G d) (hi : ∀ G2, Same G G2 → Ev K ((p, xs) :: M) ti σ G2 (.int z)) (hj : ixN xs.length z = some j) (dj : Dj G ((p, xs) :: M)) (q : ∀ v G2, Same G G2 → Dj G2 ((p, xs.set j v) :: M) → Dp K G2 v d → us D σ (jn G2 ((p, xs.set j v) :: M))) :
    tSeq (tAsg te (gSub (tVar i) ti rSetL)) us D σ (jn G ((p, xs) :: M)) := h G (Same.refl _) dj _ fun v G2 s2 dj2 hv => ⟨.ref p, hp, hi G2 s2 G2 (Same.refl _) dj2 _ fun y G3 s3 dj3 hy => by
    cases hy
    refine ⟨p, xs, z, j, rfl, rfl, jn_mine, hj, ?_⟩
    rw [jn_set]
    exact q v G3 (s2.trans s3) (dj_set dj3) (hv.mono s3)⟩
theorem st_setL {M : Mh} {σ : L2.St} {G : Hp} {te ti : TE} {d : PyData} {D : Ends} {i j : Nat} {z : Int} {p : Addr} {xs : List V} (hp : σ[i]? = some (some (.ref p))) (h : Ev K ((p, xs) :: M) te σ G d) (hi : ∀ G2, Same G G2 → Ev K ((p, xs) :: M) ti σ G2 (.int z)) (hj : ixN xs.length z = some j) (dj : Dj G ((p, xs) :: M)) (q : ∀ v G2, Same G G2 → Dj G2 ((p, xs.set j v) :: M) → Dp K G2 v d → D.nx σ (jn G2 ((p, xs.set j v) :: M))) :
    tAsg te (gSub (tVar i) ti rSetL) D σ (jn G ((p, xs) :: M)) := h G (Same.refl _) dj _ fun v G2 s2 dj2 hv => ⟨.ref p, hp, hi G2 s2 G2 (Same.refl _) dj2 _ fun y G3 s3 dj3 hy => by
    cases hy
    refine ⟨p, xs, z, j, rfl, rfl, jn_mine, hj, ?_⟩
    rw [jn_set]
    exact q v G3 (s2.trans s3) (dj_set dj3) (hv.mono s3)⟩
/-! ### _law_box(script, k) -/
def spBox (K : PySem.W.Frag) : Sp := fun vs H Q _ => ∃ (v0 : V) (z : Int), vs = [v0, .int 0] ∧ Dp K H v0 (.list [.int z]) ∧ ∀ t G' ns, Same H G' → G' t = none → Tin 0 ns → Q (.ref t) (jn G' [(t, ns)])
theorem sc__law_box : FnScope ["_law_script", "_law_k", "_law_bit_so"] ["_law_script", "_law_k"] (defScope s__law_box) := ⟨rfl, rfl, rfl, by decide +kernel, rfl, by decide +kernel, by decide +kernel⟩
theorem c_law_box (T : Tx mg) (D : Dn K mg "_law_box" s__law_box ["_law_script", "_law_k"]) : Cal P w K mg base 1 "_law_box" (spBox K) := by
  refine D.cal sc__law_box (fun vs H Q E h => by obtain ⟨_, _, rfl, _⟩ := h; rfl) (fun f cdv A outer s H vs Q E hr h => ?_)
  obtain ⟨v0, z, rfl, h0, q⟩ := h
  refine ⟨_, (pss_cons (ps_set (i := 2) sc__law_box.nd rfl (Or.inl rfl) (pe_ifExp (pt_cmpR op_lt (pv 1) (pe_len K T (pv 0)) (nomark _)) (xL K (pv 0) (pv 1)) pe_int))
    (pss_one (ps_ret (pe_lst (pa_cons (pe_op op_mul (pe_abs T (pv 2)) (pe_int1 T (pe_cmpR op_ge (pe_abs T (pv 2)) (pe_op op_pow pe_int pe_int) (nomark _)))) (pa_cons (pe_op op_add (pe_op op_add (pe_op op_mod (pe_int1 T (pv 2)) pe_int) (pe_op op_mul pe_int (pv 1))) pe_int) (pa_cons pe_int pa_nil))))))), ?_⟩
  rw [← jn_nil H]
  refine s_set (K := K) (d := .int z) (ev_ifT (eb_test (K := K) ?_) (ev_ixL (ds := [.int z]) (Ev.toS (ev_var rfl h0)) (ev_var rfl (.int _)) rfl)) (dj_nil _) fun v2 G2 s2 dj2 h2 => ?_
  · exact ev_I0 (K := K) (z := .bool true) (ev_var rfl (.int 0)) (ev_lenL (Ev.toS (ev_var rfl h0))) (fun _ => .bl true)
  · cases h2
    generalize hd : (decide ((if z < 0 then -z else z) ≥ (10 : Int) ^ (18 : Int).toNat)) = bd
    have hpow : Ev K [] (tOp (rI CPow fun i j => .int (i ^ j.toNat)) (tC (.int 10)) (tC (.int 18))) [some v0, some (.int 0), some (.int z)] G2 (.int ((10 : Int) ^ (18 : Int).toNat)) := ev_I ev_int ev_int ⟨by decide, by decide, by decide⟩ (fun _ => .int _)
    refine evm_lst (K := K) (M := []) (ds := [.int ((if z < 0 then -z else z) * (if bd then 1 else 0)), .int (z % 2305843009213693951 + 39373 * 0 + 3196029), .int 0]) (ea_cons (ev_I (ev_abs (ev_var rfl (.int z))) (ev_intB (b := bd) ?_) ?_ (fun _ => .int _)) (ea_two (ev_I0 (ev_I0 (ev_I (ev_int1 (ev_var rfl (.int z))) ev_int ?_ (fun _ => .int _)) (ev_I ev_int (ev_var rfl (.int 0)) ?_ (fun _ => .int _)) (fun _ => .int _)) ev_int (fun _ => .int _)) ev_int)) (by show 3 ≤ 100000; decide) G2 (Same.refl _) dj2 _ fun p xs G3 s3 hp dj3 hx => ?_
    · have := ev_I0 (K := K) (M := []) (g := fun i j => V.bl (decide (i ≥ j))) (z := .bool bd) (σ := [some v0, some (.int 0), some (.int z)]) (G := G2) (ta := tCB rAbs (tCons (tVar 2) tNil)) (ev_abs (ev_var rfl (.int z))) hpow (fun _ => by rw [hd]; exact .bl _)
      exact this
    · right
      cases bd <;> decide
    · show (0 : Int) < 2305843009213693951
      decide
    · left
      decide
    · have e : xs = [.int ((if z < 0 then -z else z) * (if bd then 1 else 0)), .int (z % 2305843009213693951 + 39373 * 0 + 3196029), .int 0] := DpAll.ints (ns := [(if z < 0 then -z else z) * (if bd then 1 else 0), z % 2305843009213693951 + 39373 * 0 + 3196029, 0]) hx
      subst e
      exact q p G3 _ (s2.trans s3) (dj_here dj3) ⟨_, _, _, rfl, by decide, by decide⟩
end
end Lw
/-! text L2 -/
set_option Elab.async false
set_option linter.all false
set_option maxRecDepth 100000
set_option maxHeartbeats 2000000
namespace Lw
open PySem PySem.Spec PyProof.Rows L2
section
variable {K : PySem.W.Frag} {M : Mh} {σ : L2.St} {G : Hp} {ta tb te : TE} {ds es : List PyData}
theorem evm_orT (ha : EvM K M ta σ G ds) (hb : ds = [] → ∀ G2, Same G G2 → EvM K M tb σ G2 es) (he : ds ≠ [] → es = ds) : EvM K M (tOrT K ta tb) σ G es := fun G1 s dj Q q => ha G1 s dj _ fun p xs G2 s2 hm dj2 hx => by
  have l := hx.len
  refine ⟨!xs.isEmpty, .inl ⟨xs, .of jn_mine, rfl⟩, ?_⟩
  cases xs with
  | nil =>
    have e : ds = [] := List.eq_nil_of_length_eq_zero l.symm
    refine iteF ?_
    rw [jn_give hm]
    have n := dj_here dj2
    exact hb e _ (s.trans (s2.trans (same_new n))) _ (Same.refl _) (dj_give dj2 hm) Q fun p' xs' G3 s3 hm' dj3 hx' => q p' xs' G3 (s2.trans ((same_new n).trans s3)) hm' dj3 hx'
  | cons x xs =>
    refine iteT (q p _ G2 s2 hm dj2 ?_)
    rw [he (fun z => by rw [z] at l; simp at l)]
    exact hx
theorem ei_enumL (h : Ev K M te σ G (.list ds)) : EvI K M (iEnum K (tCons te tNil)) σ G ((List.range ds.length).map fun i => .tuple [nD i, ds.getD i .none]) Any := fun G1 s dj R r => h G1 s dj _ fun v G2 s2 dj2 hv => by
  obtain ⟨a, xs, rfl, h1, h2⟩ := dp_lst hv
  have hl : ((List.range ds.length).map fun i => PyData.tuple [nD i, ds.getD i .none]).length = xs.length := by rw [List.length_map, List.length_range, h2.len]
  refine ⟨a, xs, rfl, sq_jnL dj2 h1, r _ G2 s2 dj2 ⟨fun i G3 M3 hi s3 dj3 _ => ?_, fun G3 M3 s3 dj3 _ => ?_, fun i G3 M3 x H' hi s3 dj3 _ y => ?_⟩⟩
  · rw [hl] at hi
    exact ⟨xs, xs[i], sq_jnL dj3 (s3.seq h1), List.getElem?_eq_getElem hi⟩
  · rw [hl]
    exact ⟨xs, sq_jnL dj3 (s3.seq h1), Nat.le_refl _⟩
  · obtain ⟨Tn, z, rfl, hn, rfl, hz⟩ := y
    have hz := hz xs (sq_jnL dj3 (s3.seq h1))
    have n := jn_none hn
    obtain ⟨d, e1, e2⟩ := h2.get' hz
    have hi2 : i < ds.length := (List.getElem?_eq_some_iff.mp e1).1
    refine ⟨upd G3 Tn (.tup [.int (i : Nat), z]), _, jn_new hn, same_new n.2, dj_new dj3 hn, by rw [List.getElem?_map, List.getElem?_range hi2]; rfl, ?_⟩
    show Dp K _ _ (.tuple [nD i, ds.getD i .none])
    rw [List.getD_eq_getElem?_getD, e1]
    exact .tup (.of upd_same) (.cons (.int _) (.cons (e2.mono (s3.trans (same_new n.2))) .nil))
theorem wi_enumL (K : PySem.W.Frag) {X : Cx} (T : Tx X.mg) {e : Expr} {te : TE} {p pos tpos : Pos} {elts : List Expr} {kk : Nat} (he : PE X e te) (hK : X.K = K := by rfl) (hg : Gl X "enumerate" := by rfl) (hs : starEach [e] X.env = [(false, eval e X.env)] := by rfl) :
    PI X (.Tuple elts kk tpos) (.Call (.Name "enumerate" p) [e] [] pos) (iEnum K (tCons te tNil)) := by
  subst hK
  exact pi_enum hg T.enumerate_ (pa_cons he pa_nil hs) hs
theorem cutD_map {α β : Type} (f : α → β) (xs : List α) (lo hi : Option Int) : cutD (xs.map f) lo hi = (cutD xs lo hi).map f := by
  unfold cutD
  rw [List.length_map, ← List.map_drop, ← List.map_take]
theorem cutD_len {α : Type} (xs : List α) (lo hi : Option Int) : (cutD xs lo hi).length ≤ xs.length := by
  unfold cutD
  rw [List.length_take, List.length_drop]
  omega
end
section
variable {P : Program} {w : World} {K : PySem.W.Frag} {mg : Str → Option Value} {base : Heap}
/-! ### _law_cells(script, 1) -/
def spCells (K : PySem.W.Frag) : Sp := fun vs H Q _ => ∃ (v0 : V) (ns : List Int), vs = [v0, .int 1] ∧ Dp K H v0 (.list (ns.map PyData.int)) ∧ ns.length ≤ 90000 ∧ ∀ v H' z, Same H H' → Dp K H' v (.list [.int z]) → Q v H'
theorem sc__law_cells : FnScope ["_law_script", "_law_most_so", "_law_cells_so", "_law_k", "_law_bit_so", "_law_at_so"] ["_law_script", "_law_most_so"] (defScope s__law_cells) := ⟨rfl, rfl, rfl, by decide +kernel, rfl, by decide +kernel, by decide +kernel⟩
theorem c_law_cells (T : Tx mg) (D : Dn K mg "_law_cells" s__law_cells ["_law_script", "_law_most_so"]) : Cal P w K mg base 1 "_law_cells" (spCells K) := by
  refine D.cal sc__law_cells (fun vs H Q E h => by obtain ⟨_, _, rfl, _⟩ := h; rfl) (fun f cdv A outer s H vs Q E hr h => ?_)
  obtain ⟨v0, ns, rfl, h0, hl, q⟩ := h
  refine ⟨_, (pss_cons (ps_set (i := 2) sc__law_cells.nd rfl (Or.inl rfl) (pe_orT (pe_lstOf K T (pe_slL K (pv 0) po_none (po_some (pv 1)))) (pe_one (pe_lst (pa_cons pe_int pa_nil)))))
    (pss_cons (ps_for PassesOwn.never rfl (wi_enumL K T (pe_slL K (pv 0) (po_some (pv 1)) (po_some pe_int))) (pg2 K rfl (pgs_cons (pg_name (i := 3) sc__law_cells.nd rfl (Or.inl rfl)) (pgs_cons (pg_name (i := 4) sc__law_cells.nd rfl (Or.inl rfl)) pgs_nil)))
      (pss_cons (ps_set (i := 5) sc__law_cells.nd rfl (Or.inl rfl) (pe_op op_mod (pe_int1 T (pv 3)) (pv 1)))
      (pss_one (ps_asg (pe_op op_add (xL K (pv 2) (pv 5)) (pe_op op_mul (pv 4) (pe_op op_add (pv 3) pe_int))) (pg_sub (pv 2) (pv 5) set_list)))))
    (pss_one (ps_ret (pv 2))))), ?_⟩
  rw [← jn_nil H]
  have hs0 : ∃ z, (if ns = [] then [PyData.int 0] else (ns.take 1).map PyData.int) = [.int z] := by
    cases ns with
    | nil => exact ⟨0, rfl⟩
    | cons a r => exact ⟨a, rfl⟩
  obtain ⟨z0, hz0⟩ := hs0
  have cut1 : cutD (ns.map PyData.int) none (some 1) = (ns.take 1).map PyData.int := by
    rw [cutD_map]
    cases ns with
    | nil => rfl
    | cons a r => rw [show (some (1 : Int)) = some ((1 : Nat) : Int) from rfl, cut_to (by simp)]
  refine s_setM (K := K) (ds := [.int z0]) (evm_orT (ds := (ns.take 1).map PyData.int) (evm_lstOf (EvM.toE ?_).toS) (fun e G2 s2 => ?_) (fun e => ?_)) (dj_nil _) fun p xs G2 s2 hp dj2 hx => ?_
  · have := evm_slL (K := K) (M := []) (ta := tVar 0) (to := tNoPart) (th := tPart (tVar 1)) (σ := start ["_law_script", "_law_most_so", "_law_cells_so", "_law_k", "_law_bit_so", "_law_at_so"] [v0, .int 1]) (G := H) (Ev.toS (ev_var rfl h0)) eo_none (eo_some (K := K) (ev_var rfl (.int 1)))
    rw [cut1] at this
    exact this
  · have en : ns = [] := by
      cases ns with
      | nil => rfl
      | cons a r => simp at e
    rw [if_pos en] at hz0
    rw [← hz0]
    exact evm_lst (ea_one ev_int)
  · have en : ns ≠ [] := fun z => e (by rw [z]; rfl)
    rw [if_neg en] at hz0
    exact hz0.symm
  · have ex : xs = [.int z0] := DpAll.ints (ns := [z0]) hx
    subst ex
    have hI := ei_enumL (K := K) (M := [(p, [.int z0])]) (te := tSl (rSlL K) (tVar 0) (tPart (tVar 1)) (tPart (tC (.int 63)))) (σ := [some v0, some (.int 1), some (.ref p), none, none, none]) (G := G2) (EvM.toE (evm_slL (Ev.toS (ev_var rfl (h0.mono s2))) (eo_some (K := K) (ev_var rfl (.int 1))) (eo_some (K := K) ev_int)))
    refine s_for hI (fun _ σ1 _ M1 => ∃ x y u z, σ1 = [some v0, some (.int 1), some (.ref p), x, y, u] ∧ M1 = [(p, [.int z])]) dj2 (fun _ _ _ => ⟨none, none, none, z0, rfl, rfl⟩) (fun _ _ _ _ _ _ h => h) ?_ ?_
    · rintro G3 s3 i d σ1 G4 M3 x hd s4 dj4 ⟨x3, x4, x5, z, rfl, rfl⟩ hx
      rw [cutD_map, List.length_map] at hd
      have hi : i < (cutD ns (some 1) (some 63)).length := by
        have := (List.getElem?_eq_some_iff.mp hd).1
        rw [List.length_map, List.length_range] at this
        exact this
      rw [List.getElem?_map, List.getElem?_range hi] at hd
      cases hd
      have hil := cutD_len ns (some 1) (some 63)
      have hx : Dp K G4 x (.tuple [nD i, ((cutD ns (some 1) (some 63)).map PyData.int).getD i .none]) := hx
      rw [List.getD_eq_getElem?_getD, List.getElem?_map, List.getElem?_eq_getElem hi] at hx
      generalize (cutD ns (some 1) (some 63))[i] = bit at hx
      refine g_two dj4 hx fun v3 v4 h3 h4 => ?_
      cases h3
      cases h4
      refine s_set (K := K) (d := .int (((i : Nat) : Int) % 1)) (ev_I (ev_int1 (ev_var rfl (.int _))) (ev_var rfl (.int 1)) (by decide) (fun _ => .int _)) dj4 fun v5 G5 s5 dj5 h5 => ?_
      cases h5
      have e0 : ((i : Nat) : Int) % 1 = 0 := Int.emod_one _
      rw [e0]
      refine st_setL (K := K) (z := 0) (j := 0) (d := .int (z + bit * (((i : Nat) : Int) + 2))) rfl (ev_I0 (ev_ixL (ds := [.int z]) (EvL.toS (evl_var rfl lk_here (.cons (.int z) .nil))) (ev_var rfl (.int 0)) rfl) (ev_I (ev_var rfl (.int bit)) (ev_I0 (ev_var rfl (.int _)) ev_int (fun _ => .int _)) ?_ (fun _ => .int _)) (fun _ => .int _)) (fun G6 s6 => ev_var rfl (.int 0)) rfl dj5 fun v6 G6 s6 dj6 h6 => ?_
      · right
        constructor <;> omega
      · cases h6
        exact nd_of rfl (s4.trans (s5.trans s6)) dj6 ⟨_, _, _, _, rfl, rfl⟩
    · rintro σ1 G3 M3 s3 dj3 ⟨x3, x4, x5, z, rfl, rfl⟩
      have el : EvJ K [(p, [.int z])] (tVar 2) [some v0, some (.int 1), some (.ref p), x3, x4, x5] G3 (.list [.int z]) := EvS.toJ (EvL.toS (evl_var rfl lk_here (.cons (.int z) .nil)))
      exact finM (fun v H' s hd => q v H' z s hd) (s2.trans s3) dj3 el
/-! ### _law_take(tin, below) -/
def W_take : List PyData → Nat → (V → Hp → Prop) → Prop := fun ds c Pp => ∃ below : Nat, ds = [nD below] ∧ 0 < below ∧ below ≤ 100000 ∧ c = 1 ∧ Pp = fun v _ => ∃ r : Nat, v = .int (r : Nat) ∧ r < below
theorem sc__law_take : FnScope ["_law_tin", "_law_below_so", "_law_drawn", "_law_once_so", "_law_wide_so", "_law_twice_so"] ["_law_tin", "_law_below_so"] (defScope s__law_take) := ⟨rfl, rfl, rfl, by decide +kernel, rfl, by decide +kernel, by decide +kernel⟩
theorem mod_nat (z : Int) {b : Nat} (hb : 0 < b) : ∃ r : Nat, z % ((b : Nat) : Int) = (r : Nat) ∧ r < b := by
  have h1 := Int.emod_nonneg z (b := ((b : Nat) : Int)) (by omega)
  have h2 := Int.emod_lt_of_pos z (b := ((b : Nat) : Int)) (by omega)
  exact ⟨(z % ((b : Nat) : Int)).toNat, by omega, by omega⟩
theorem c_law_take (T : Tx mg) (D : Dn K mg "_law_take" s__law_take ["_law_tin", "_law_below_so"]) : Cal P w K mg base 1 "_law_take" (spW K W_take) := by
  refine D.prW sc__law_take (fun ds c Pp h => by obtain ⟨_, rfl, _⟩ := h; rfl) (fun f cdv A outer s H E t vs ds c Pp hr hR => ?_)
  obtain ⟨below, rfl, hb0, hb1, rfl, rfl⟩ := hR
  refine ⟨_, (pss_cons (ps_if (pt_cmpR op_gt (xL K (pv 0) pe_int) pe_int (nomark _))
      (pss_cons (ps_set (i := 2) sc__law_take.nd rfl (Or.inl rfl) (pe_op op_mod (pe_int1 T (xL K (pv 0) pe_int)) (pv 1)))
      (pss_cons (ps_asg (pe_op op_fdiv (xL K (pv 0) pe_int) (pv 1)) (pg_sub (pv 0) pe_int set_list))
      (pss_one (ps_ret (pv 2)))))
      pss_nil)
    (pss_cons (ps_asg (pe_op op_add (xL K (pv 0) pe_int) pe_int) (pg_sub (pv 0) pe_int set_list))
    (pss_cons (ps_set (i := 3) sc__law_take.nd rfl (Or.inl rfl) (pe_op op_mod (pe_int1 T (pe_op op_mul (pe_op op_add (xL K (pv 0) pe_int) (pe_op op_mul pe_int (xL K (pv 0) pe_int))) (pe_op op_add pe_int (xL K (pv 0) pe_int)))) pe_int))
    (pss_cons (ps_set (i := 4) sc__law_take.nd rfl (Or.inl rfl) (pe_op op_add (pe_op op_mod (pe_int1 T (pv 3)) pe_int) pe_int))
    (pss_cons (ps_set (i := 5) sc__law_take.nd rfl (Or.inl rfl) (pe_op op_mod (pe_int1 T (pe_op op_mul (pe_op op_add (pe_op op_add (pv 3) (xL K (pv 0) pe_int)) (pe_op op_fdiv (xL K (pv 0) pe_int) pe_int)) (pv 4))) pe_int))
    (pss_one (ps_ret (pe_op op_mod (pe_int1 T (pe_op op_fdiv (pe_op op_mod (pe_int1 T (pe_op op_add (pe_op op_mul (pv 5) pe_int) (pv 3))) pe_int) pe_int)) (pv 1))))))))), fun G ns kk Q h0 tin hk hv q => ?_⟩
  obtain ⟨a, b, c, rfl, hc0, hc1⟩ := tin
  obtain ⟨v1, rfl, h1⟩ := dp1 hv
  cases h1
  have dj := dj_one (ns := [.int a, .int b, .int c]) h0
  have rd : ∀ {σ : L2.St} {G2 : Hp} {a b c : Int} (z : Int) (d : Int), σ[0]? = some (some (.ref t)) → atI [PyData.int a, .int b, .int c] z = some (.int d) → Ev K [(t, [.int a, .int b, .int c])] (tOp (rIxL K) (tVar 0) (tC (.int z))) σ G2 (.int d) := fun z d hs hz => ev_ixL (EvL.toS (evl_var hs lk_here (.cons (.int _) (.cons (.int _) (.cons (.int _) .nil))))) ev_int hz
  refine s_ifN (b := decide (a > 0)) (eb_test (K := K) (ev_I0 (g := fun i j => V.bl (decide (i > j))) (rd 0 a rfl rfl) ev_int (fun _ => .bl _))) dj (fun hpos G2 s2 dj2 => ?_) (fun hpos G2 s2 dj2 => ?_)
  · obtain ⟨r, hr1, hr2⟩ := mod_nat a hb0
    refine s_set (K := K) (d := nD r) (ev_I (ev_int1 (rd 0 a rfl rfl)) (ev_var rfl (.int _)) (by omega) (fun _ => by rw [hr1]; exact .int _)) dj2 fun v2 G3 s3 dj3 h2 => ?_
    cases h2
    refine s_setL (K := K) (z := 0) (j := 0) (d := .int (a / ((below : Nat) : Int))) rfl (ev_I (rd 0 a rfl rfl) (ev_var rfl (.int _)) ⟨by omega, by omega⟩ (fun _ => .int _)) (fun _ _ => ev_int) rfl dj3 fun v3 G4 s4 dj4 h3 => ?_
    cases h3
    exact ⟨_, rfl, q _ G4 _ (s2.trans (s3.trans s4)) (dj_here dj4) ⟨_, _, _, rfl, hc0, by omega⟩ ⟨r, rfl, hr2⟩⟩
  · obtain ⟨c1, hc⟩ : ∃ c1, c1 = c + 1 := ⟨_, rfl⟩
    refine s_setL (K := K) (z := 2) (j := 2) (d := .int c1) rfl (ev_I0 (i := c) (j := 1) (rd 2 c rfl rfl) ev_int (fun _ => by rw [hc]; exact .int _)) (fun _ _ => ev_int) rfl dj2 fun v3 G3 s3 dj3 h3 => ?_
    cases h3
    show tSeq _ _ _ _ (jn G3 [(t, [.int a, .int b, .int c1])])
    have dj3 : Dj G3 [(t, [.int a, .int b, .int c1])] := dj3
    have c2 : 0 ≤ c1 ∧ c1 ≤ 200000 := by omega
    have hone : ∃ o : Int, (b + 48271 * c1) * (39373 + c1) % 2147483647 = o := ⟨_, rfl⟩
    obtain ⟨o, ho⟩ := hone
    refine s_set (K := K) (d := .int o) (ev_I (i := (b + 48271 * c1) * (39373 + c1)) (j := 2147483647) (ev_int1 (ev_I (i := b + 48271 * c1) (j := 39373 + c1) (ev_I0 (i := b) (j := 48271 * c1) (rd 1 b rfl rfl) (ev_I (i := 48271) (j := c1) ev_int (rd 2 c1 rfl rfl) (.inl ⟨by decide, by decide⟩) (fun _ => .int _)) (fun _ => .int _)) (ev_I0 (i := 39373) (j := c1) ev_int (rd 2 c1 rfl rfl) (fun _ => .int _)) (.inr ⟨by omega, by omega⟩) (fun _ => .int _))) ev_int (by decide) (fun _ => by rw [ho]; exact .int _)) dj3 fun v4 G4 s4 dj4 h4 => ?_
    cases h4
    have hw : ∃ x : Int, o % 40009 + 7 = x ∧ 0 ≤ x ∧ x < 50000 := ⟨_, rfl, by omega, by omega⟩
    obtain ⟨x, hx, hx0, hx1⟩ := hw
    refine s_set (K := K) (d := .int x) (ev_I0 (i := o % 40009) (j := 7) (ev_I (i := o) (j := 40009) (ev_int1 (ev_var rfl (.int o))) ev_int (by decide) (fun _ => .int _)) ev_int (fun _ => by rw [hx]; exact .int _)) dj4 fun v5 G5 s5 dj5 h5 => ?_
    cases h5
    have htw : ∃ y : Int, (o + c1 + b / 1000003) * x % 2147483629 = y := ⟨_, rfl⟩
    obtain ⟨y, hy⟩ := htw
    refine s_set (K := K) (d := .int y) (ev_I (i := (o + c1 + b / 1000003) * x) (j := 2147483629) (ev_int1 (ev_I (i := o + c1 + b / 1000003) (j := x) (ev_I0 (i := o + c1) (j := b / 1000003) (ev_I0 (i := o) (j := c1) (ev_var rfl (.int o)) (rd 2 c1 rfl rfl) (fun _ => .int _)) (ev_I (i := b) (j := 1000003) (rd 1 b rfl rfl) ev_int ⟨by decide, by decide⟩ (fun _ => .int _)) (fun _ => .int _)) (ev_var rfl (.int x)) (.inr ⟨by omega, by omega⟩) (fun _ => .int _))) ev_int (by decide) (fun _ => by rw [hy]; exact .int _)) dj5 fun v6 G6 s6 dj6 h6 => ?_
    cases h6
    obtain ⟨r, hr1, hr2⟩ := mod_nat ((y * 48271 + o) % 2147483587 / 64) hb0
    have fe := ev_I (K := K) (M := [(t, [.int a, .int b, .int c1])]) (C := fun _ j => 0 < j) (g := fun i j => .int (i % j)) (σ := [some (.ref t), some (.int ((below : Nat) : Int)), none, some (.int o), some (.int x), some (.int y)]) (G := G6) (z := nD r) (i := (y * 48271 + o) % 2147483587 / 64) (j := ((below : Nat) : Int)) (ta := tCB rInt1 (tCons (tOp (rI CDiv fun i j => .int (i / j)) (tOp (rI (fun _ j => 0 < j) fun i j => .int (i % j)) (tCB rInt1 (tCons (tOp (rI0 fun i j => .int (i + j)) (tOp (rI CMul fun i j => .int (i * j)) (tVar 5) (tC (.int 48271))) (tVar 3)) tNil)) (tC (.int 2147483587))) (tC (.int 64))) tNil)) (tb := tVar 1) (ev_int1 (ev_I (i := (y * 48271 + o) % 2147483587) (j := 64) (ev_I (i := y * 48271 + o) (j := 2147483587) (ev_int1 (ev_I0 (i := y * 48271) (j := o) (ev_I (i := y) (j := 48271) (ev_var rfl (.int y)) ev_int (.inr ⟨by decide, by decide⟩) (fun _ => .int _)) (ev_var rfl (.int o)) (fun _ => .int _))) ev_int (by decide) (fun _ => .int _)) ev_int ⟨by decide, by decide⟩ (fun _ => .int _))) (ev_var rfl (.int _)) (by show (0 : Int) < _; omega) (fun _ => by rw [hr1]; exact .int _)
    refine fe G6 (Same.refl _) dj6 _ fun v G7 s7 dj7 hv => ?_
    cases hv
    exact q _ G7 _ (s2.trans (s3.trans (s4.trans (s5.trans (s6.trans s7))))) (dj_here dj7) ⟨_, _, _, rfl, c2.1, by omega⟩ ⟨r, rfl, hr2⟩
end
end Lw
/-! text L3 -/
set_option Elab.async false
set_option linter.all false
set_option maxRecDepth 100000
set_option maxHeartbeats 2000000
namespace Lw
open PySem PySem.Spec PyProof.Rows L2
section
variable {K : PySem.W.Frag} {M : Mh} {σ : L2.St} {G : Hp} {t : Addr} {k k' : Nat} {te : TE}
theorem evw_tupOf {α : Type} {f : α → List PyData} {Z : α → Prop} (h : EvW M t k k' te σ G (fun v G2 => ∃ a, Dp K G2 v (.list (f a)) ∧ Z a)) : EvW M t k k' (tCB (rTupOf K) (tCons te tNil)) σ G (fun v G2 => ∃ a, Dp K G2 v (.tuple (f a)) ∧ Z a) := fun G1 ns s tin dj Q q => h G1 ns s tin dj _ fun v G2 ns' s2 tin' dj2 hv => by
  obtain ⟨a, hd, hz⟩ := hv
  obtain ⟨p, xs, rfl, h1, h2⟩ := dp_lst hd
  refine ⟨p, xs, rfl, .inl ⟨sq_jnL dj2 h1, fun l hl => ?_⟩⟩
  have n := jn_none hl
  rw [jn_new hl]
  exact q _ _ ns' (s2.trans (same_new n.2)) tin' (dj_new dj2 hl) ⟨a, .tup (.of upd_same) (h2.mono (same_new n.2)), hz⟩
theorem EvW.up {k2 : Nat} {Pp : V → Hp → Prop} (h : EvW M t k k' te σ G Pp) (hk : k' ≤ k2) : EvW M t k k2 te σ G Pp := fun G1 ns s tin dj Q q => h G1 ns s tin dj Q fun v G2 ns' s2 tin' dj2 hv => q v G2 ns' s2 (tin'.up hk) dj2 hv
end
section
variable {P : Program} {w : World} {K : PySem.W.Frag} {mg : Str → Option Value} {base : Heap}
/-! ### _law_of(tin, goods) -/
def W_of (K : PySem.W.Frag) : List PyData → Nat → (V → Hp → Prop) → Prop := fun ds c Pp => ∃ gs : List PyData, ds = [.list gs] ∧ gs ≠ [] ∧ gs.length ≤ 100000 ∧ c = 1 ∧ Pp = fun v G => ∃ (i : Nat) (d : PyData), gs[i]? = some d ∧ Dp K G v d
theorem sc__law_of : FnScope ["_law_tin", "_law_goods_so"] ["_law_tin", "_law_goods_so"] (defScope s__law_of) := ⟨rfl, rfl, rfl, by decide +kernel, rfl, by decide +kernel, by decide +kernel⟩
theorem c_law_of (T : Tx mg) (D : Dn K mg "_law_of" s__law_of ["_law_tin", "_law_goods_so"]) (k__law_take : Cal P w K mg base 1 "_law_take" (spW K W_take)) : Cal P w K mg base 2 "_law_of" (spW K (W_of K)) := by
  refine D.prW sc__law_of (fun ds c Pp h => by obtain ⟨_, rfl, _⟩ := h; rfl) (fun f cdv A outer s H E t vs ds c Pp hr hR => ?_)
  obtain ⟨gs, rfl, hne, hl, rfl, rfl⟩ := hR
  refine ⟨_, (pss_one (ps_ret (xL K (pv 1) (pe_ca k__law_take hr (by decide) rfl (pa_cons (pv 0) (pa_cons (pe_len K T (pv 1)) pa_nil)))))), fun G ns kk Q h0 tin hk hv q => ?_⟩
  obtain ⟨v1, rfl, h1⟩ := dp1 hv
  have hl0 : 0 < gs.length := List.length_pos_iff.mpr hne
  refine ⟨v1, rfl, ?_⟩
  refine evw_call (K := K) (M := []) (t := t) (i := 0) (k := kk) (c := 1) (ds := [nD gs.length]) (R := W_take) rfl (fun ns => ea_one (ev_lenL (Ev.toS (ev_var rfl h1)))) ⟨gs.length, rfl, hl0, hl, rfl, rfl⟩ rfl hk G ns (Same.refl _) tin (dj_one h0) _ fun v G2 ns' s2 tin' dj2 hp => ?_
  obtain ⟨r, rfl, hr⟩ := hp
  have h1 := h1.mono s2
  obtain ⟨p, xs, rfl, k1, k2⟩ := dp_lst h1
  obtain ⟨y, e1, e2⟩ := k2.get (List.getElem?_eq_getElem hr)
  exact ⟨p, xs, _, y, rfl, rfl, sq_jnL dj2 k1, atI_nat e1, q y G2 ns' s2 (dj_split (M := []) rfl dj2).2 tin' ⟨r, _, List.getElem?_eq_getElem hr, e2⟩⟩
/-! ### _law_pick(tin, goods, count) -/
def PickOk (n cnt : Nat) (qs : List Nat) : Prop := qs.Nodup ∧ (∀ k ∈ qs, k < n) ∧ qs.length = min cnt n
def W_pick (K : PySem.W.Frag) : List PyData → Nat → (V → Hp → Prop) → Prop := fun ds c Pp => ∃ n : Nat, ds = [.list ((List.range n).map nD), nD c] ∧ n ≤ 1000 ∧ Pp = fun v G => ∃ qs : List Nat, Dp K G v (.list (qs.map nD)) ∧ PickOk n c qs
theorem sc__law_pick : FnScope ["_law_tin", "_law_goods_so", "_law_count_so", "_law_pool_so", "_law_found", "_law_lap"] ["_law_tin", "_law_goods_so", "_law_count_so"] (defScope s__law_pick) := ⟨rfl, rfl, rfl, by decide +kernel, rfl, by decide +kernel, by decide +kernel⟩
theorem perm_erase : ∀ (l : List Nat) (r : Nat) (h : r < l.length), (l[r] :: l.eraseIdx r).Perm l
  | a :: l, 0, _ => List.Perm.refl _
  | a :: l, r + 1, h => (List.Perm.swap a (l[r]'(by simpa using h)) _).trans ((perm_erase l r (by simpa using h)).cons a)
theorem seqIx {n r : Nat} (h : r < n) : seqIndex? ((r : Nat) : Int) n = some r := (ixN_seq (by unfold ixN; rw [if_pos (by omega), if_pos (by omega)]; rfl)).1
theorem c_law_pick (T : Tx mg) (D : Dn K mg "_law_pick" s__law_pick ["_law_tin", "_law_goods_so", "_law_count_so"]) (k__law_take : Cal P w K mg base 1 "_law_take" (spW K W_take)) : Cal P w K mg base 2 "_law_pick" (spW K (W_pick K)) := by
  refine D.prW sc__law_pick (fun ds c Pp h => by obtain ⟨_, rfl, _⟩ := h; rfl) (fun f cdv A outer s H E t vs ds cnt Pp hr hR => ?_)
  obtain ⟨n, rfl, hn, rfl⟩ := hR
  refine ⟨_, (pss_cons (ps_par (i := 3) (j := 4) rfl sc__law_pick.nd rfl rfl (by decide) rfl rfl (pa_cons (pe_lstOf K T (pv 1)) (pa_cons (pe_lst pa_nil) pa_nil)) rfl)
    (pss_cons (ps_for PassesOwn.never rfl (pi_range1 (by rfl) T.range_ (pa_cons (pe_min2 T rfl (pe_int1 T (pv 2)) (pe_len K T (pv 3))) pa_nil)) (pg_name (i := 5) sc__law_pick.nd rfl (Or.inl rfl))
      (pss_one (ps_expr (pe_bm PySem.F.plainAttrs_list PySem.F.slot_list_append PySem.F.type_list_append mt_append (pv 4) (pa_cons (pe_bm PySem.F.plainAttrs_list PySem.F.slot_list_pop PySem.F.type_list_pop mt_popAt (pv 3) (pa_cons (pe_ca k__law_take hr (by decide) rfl (pa_cons (pv 0) (pa_cons (pe_len K T (pv 3)) pa_nil))) pa_nil)) pa_nil)))))
    (pss_one (ps_ret (pv 4))))), fun G ns kk Q h0 tin hk hv q => ?_⟩
  obtain ⟨v1, v2, rfl, h1, h2⟩ := dp2 hv
  cases h2
  refine evm_lstOf (K := K) (M := [(t, ns)]) (Ev.toS (ev_var rfl h1)) G (Same.refl _) (dj_one h0) _ fun pl xs G2 s2 hpl dj2 hx => ?_
  refine ⟨by decide, fun fo hfo => ?_⟩
  have n2 := jn_none hfo
  rw [jn_put]
  have ex := dp_iV' hx
  subst ex
  have hft : fo ≠ pl := lk_ne n2.1
  have hft2 : fo ≠ t := fun e => by
    have := n2.1
    rw [lk_cons, if_neg hft, e, lk_here] at this
    cases this
  have hpt : pl ≠ t := lk_ne hpl
  refine ⟨_, _, rfl, ?_⟩
  show tSeq _ _ _ [some (.ref t), some v1, some (.int ((cnt : Nat) : Int)), some (.ref pl), some (.ref fo), none] (jn G2 ((fo, []) :: (pl, (List.range n).map iV) :: [(t, ns)]))
  rw [jn_swap hft]
  have dj3 : Dj G2 ((pl, (List.range n).map iV) :: (fo, [].map iV) :: [(t, ns)]) := dj_swap hft (dj_put dj2 n2.2)
  have hI := ei_rngD (K := K) (M := (pl, (List.range n).map iV) :: (fo, []) :: [(t, ns)]) (σ := [some (.ref t), some v1, some (.int ((cnt : Nat) : Int)), some (.ref pl), some (.ref fo), none]) (G := G2) (te := tCB rMin2 (tCons (tCB rInt1 (tCons (tVar 2) tNil)) (tCons (tCB (rLenQ K) (tCons (tVar 3) tNil)) tNil))) (n := min cnt n) (by
    have := ev_min2 (K := K) (M := (pl, (List.range n).map iV) :: (fo, []) :: [(t, ns)]) (σ := [some (.ref t), some v1, some (.int ((cnt : Nat) : Int)), some (.ref pl), some (.ref fo), none]) (G := G2) (ta := tCB rInt1 (tCons (tVar 2) tNil)) (tb := tCB (rLenQ K) (tCons (tVar 3) tNil)) (ev_int1 (ev_var rfl (.int _))) (ev_lenL (EvL.toS (evl_var rfl lk_here (dp_iV (List.range n)))))
    rw [List.length_map, List.length_range] at this
    rw [show (nD (min cnt n)) = .int (if ((n : Nat) : Int) < ((cnt : Nat) : Int) then ((n : Nat) : Int) else ((cnt : Nat) : Int)) from by
      unfold nD
      congr 1
      by_cases z : n < cnt
      · rw [if_pos (by omega), Nat.min_eq_right (by omega)]
      · rw [if_neg (by omega), Nat.min_eq_left (by omega)]]
    exact this) (by omega)
  refine s_for hI (fun j σ1 G1 M1 => ∃ (ps qs : List Nat) (ns' : List V) (x : Option V), σ1 = [some (.ref t), some v1, some (.int ((cnt : Nat) : Int)), some (.ref pl), some (.ref fo), x] ∧ M1 = (pl, ps.map iV) :: (fo, qs.map iV) :: [(t, ns')] ∧ Tin (kk + j) ns' ∧ (qs ++ ps).Perm (List.range n) ∧ qs.length = j) dj3 (fun _ _ _ => ⟨List.range n, [], ns, none, rfl, rfl, tin, List.Perm.refl _, rfl⟩) (fun _ _ _ _ _ _ h => h) ?_ ?_
  · rintro G3 s3 j d σ1 G4 M3 x hd s4 dj4 ⟨ps, qs, ns', x5, rfl, rfl, tin', hperm, hq⟩ hx
    have hj : j < min cnt n := by
      have := (List.getElem?_eq_some_iff.mp hd).1
      rw [List.length_map, List.length_range] at this
      exact this
    have hlen := hperm.length_eq
    rw [List.length_append, List.length_range] at hlen
    have hp0 : 0 < ps.length := by omega
    show tDrop _ _ [some (.ref t), some v1, some (.int ((cnt : Nat) : Int)), some (.ref pl), some (.ref fo), some x] _
    refine ⟨.ref fo, rfl, .inl ⟨rfl, _, .of (jn_in (lk_there (lk_here (a := fo) (xs := qs.map iV)) (by rw [lk_cons, if_neg (Ne.symm hft)]; rw [lk_cons, if_neg hpt]; rfl)))⟩, .ref pl, rfl, .inl ⟨rfl, _, .of jn_mine⟩, ?_⟩
    have hlk : (((pl, ps.map iV) :: (fo, qs.map iV) :: []) : Mh).lookup t = none := by
      rw [lk_cons, if_neg (Ne.symm hpt), lk_cons, if_neg (Ne.symm hft2)]
      rfl
    refine evw_call (K := K) (M := (pl, ps.map iV) :: (fo, qs.map iV) :: []) (t := t) (i := 0) (k := kk + j) (c := 1) (ds := [nD ps.length]) (R := W_take) rfl (fun ns => ea_one (by
      have := ev_lenL (K := K) (M := (pl, ps.map iV) :: (fo, qs.map iV) :: [(t, ns)]) (σ := [some (.ref t), some v1, some (.int ((cnt : Nat) : Int)), some (.ref pl), some (.ref fo), some x]) (G := G4) (ta := tVar 3) (EvL.toS (evl_var rfl lk_here (dp_iV ps)))
      rw [List.length_map] at this
      exact this)) ⟨ps.length, rfl, hp0, by omega, rfl, rfl⟩ hlk (by omega) G4 ns' (Same.refl _) tin' dj4 _ fun v G5 ns2 s5 tin2 dj5 hp => ?_
    obtain ⟨r, rfl, hr2⟩ := hp
    have er : ps[r]? = some ps[r] := List.getElem?_eq_getElem hr2
    refine ⟨pl, ps.map iV, ((r : Nat) : Int), r, iV ps[r], rfl, rfl, jn_mine, by omega, by omega, by rw [List.length_map]; exact seqIx hr2, map_at er, ?_⟩
    have eH : upd (jn G5 ([(pl, ps.map iV), (fo, qs.map iV)] ++ [(t, ns2)])) pl (.lst ((ps.map iV).eraseIdx r)) = jn G5 ((fo, qs.map iV) :: (pl, (ps.eraseIdx r).map iV) :: [(t, ns2)]) := by
      show upd (jn G5 ((pl, ps.map iV) :: (fo, qs.map iV) :: [(t, ns2)])) pl _ = _
      rw [jn_set, ← erase_map, jn_swap (Ne.symm hft)]
    rw [eH]
    refine ⟨fo, qs.map iV, iV ps[r], rfl, rfl, jn_mine, ?_, ?_⟩
    · rw [List.length_map]
      exact Nat.lt_of_le_of_lt (by omega : _ ≤ 1000) (by decide)
    · have dj6 : Dj G5 ((pl, (ps.eraseIdx r).map iV) :: (fo, (qs ++ [ps[r]]).map iV) :: [(t, ns2)]) := dj_swap hft (dj_set (dj_swap (Ne.symm hft) (dj_set dj5)))
      rw [jn_set, show (qs.map iV ++ [iV ps[r]]) = (qs ++ [ps[r]]).map iV by rw [List.map_append]; rfl, jn_swap hft]
      refine nd_of rfl (s4.trans s5) dj6 ⟨ps.eraseIdx r, qs ++ [ps[r]], ns2, _, rfl, rfl, tin2, ?_, by rw [List.length_append, hq]; rfl⟩
      have h1 : (ps[r] :: ps.eraseIdx r).Perm ps := perm_erase ps r hr2
      refine List.Perm.trans ?_ hperm
      rw [List.append_assoc]
      exact h1.append_left qs
  · rintro σ1 G3 M3 s3 dj4 ⟨ps, qs, ns', x5, rfl, rfl, tin', hperm, hq⟩
    rw [List.length_map, List.length_range] at hq tin'
    have nd : (qs ++ ps).Nodup := hperm.nodup_iff.mpr List.nodup_range
    have hqs : PickOk n cnt qs := ⟨(List.nodup_append.mp nd).1, fun k hk => List.mem_range.mp (hperm.mem_iff.mp (List.mem_append_left _ hk)), hq⟩
    refine ⟨.ref fo, rfl, ?_⟩
    have l1 : (((fo, qs.map iV) :: [(t, ns')]) : Mh).lookup pl = none := by
      rw [lk_cons, if_neg (Ne.symm hft), lk_cons, if_neg hpt]
      rfl
    have l2 : ((([(t, ns')]) : Mh)).lookup fo = none := by
      rw [lk_cons, if_neg hft2]
      rfl
    have n3 := dj_here dj4
    have dj5 := dj_give (o := .lst (ps.map iV)) dj4 l1
    have n4 := dj_here dj5
    have dj6 := dj_give (o := .lst (qs.map iV)) dj5 l2
    rw [jn_give l1, jn_give l2]
    exact q _ _ ns' (s2.trans (s3.trans ((same_new n3).trans (same_new n4)))) (dj_here dj6) (tin'.up (by omega)) ⟨qs, .lst (.of upd_same) (dp_iV qs), hqs⟩
/-! ### _law_walk(tin, many) -/
def W_walk (K : PySem.W.Frag) : List PyData → Nat → (V → Hp → Prop) → Prop := fun ds c Pp => ds = [nD c] ∧ c ≤ 1000 ∧ Pp = fun v G => ∃ p : List Nat, Dp K G v (rD p) ∧ PermOf c p
theorem sc__law_walk : FnScope ["_law_tin", "_law_many_so"] ["_law_tin", "_law_many_so"] (defScope s__law_walk) := ⟨rfl, rfl, rfl, by decide +kernel, rfl, by decide +kernel, by decide +kernel⟩
theorem pick_perm {n : Nat} {qs : List Nat} (h : PickOk n n qs) : PermOf n qs := by
  obtain ⟨nd, lt, hl⟩ := h
  rw [Nat.min_self] at hl
  refine ⟨nd, fun k => ⟨lt k, fun hk => ?_⟩⟩
  by_cases hq : k ∈ qs
  · exact hq
  · exfalso
    have := List.Nodup.length_le_of_subset (l₁ := k :: qs) (l₂ := List.range n) (List.nodup_cons.mpr ⟨hq, nd⟩) fun x hx => by
      rcases List.mem_cons.mp hx with rfl | hx
      · exact List.mem_range.mpr hk
      · exact List.mem_range.mpr (lt x hx)
    rw [List.length_cons, List.length_range] at this
    omega
theorem c_law_walk (T : Tx mg) (D : Dn K mg "_law_walk" s__law_walk ["_law_tin", "_law_many_so"]) (k__law_pick : Cal P w K mg base 2 "_law_pick" (spW K (W_pick K))) : Cal P w K mg base 3 "_law_walk" (spW K (W_walk K)) := by
  refine D.prW sc__law_walk (fun ds c Pp h => by obtain ⟨rfl, _⟩ := h; rfl) (fun f cdv A outer s H E t vs ds c Pp hr hR => ?_)
  obtain ⟨rfl, hl, rfl⟩ := hR
  refine ⟨_, (pss_one (ps_ret (pe_tupOf K T (pe_ca k__law_pick hr (by decide) rfl (pa_cons (pv 0) (pa_cons (pe_listRg rfl (by rfl) T.list_ (prg_1 (by rfl) T.range_ (pv 1))) (pa_cons (pv 1) pa_nil))))))), fun G ns kk Q h0 tin hk hv q => ?_⟩
  obtain ⟨v1, rfl, h1⟩ := dp1 hv
  refine evw_tupOf (K := K) (M := []) (t := t) (k := kk) (k' := kk + c) (f := fun qs : List Nat => qs.map nD) (Z := PickOk c c) (evw_call (K := K) (M := []) (i := 0) (ds := [.list ((List.range c).map nD), nD c]) (R := W_pick K) rfl (fun ns => ea_two (EvM.toE (evm_lstRg (ev_var rfl h1) (by omega))) (ev_var rfl h1)) ⟨c, rfl, hl, rfl⟩ rfl hk) G ns (Same.refl _) tin (dj_one h0) _ fun v G2 ns' s2 tin' dj2 hp => ?_
  obtain ⟨qs, hd, hz⟩ := hp
  exact q v G2 ns' s2 (dj_split (M := []) rfl dj2).2 tin' ⟨qs, hd, pick_perm hz⟩
theorem s_join {s us : TS} {D : Ends} {σ : L2.St} {H : Hp} (Inv : L2.St → Hp → Prop) (h2 : ∀ σ' H', Inv σ' H' → us D σ' H') (h1 : ∀ Nx : L2.St → Hp → Prop, (∀ σ' H', Inv σ' H' → Nx σ' H') → s { D with nx := Nx } σ H) : tSeq s us D σ H := h1 (us D) h2
theorem un_nx {F : L2.St → Hp → Prop} {rt : VK} {bk ct : L2.St → Hp → Prop} {σ : L2.St} {H : Hp} (h : F σ H) : ({ nx := F, rt := rt, bk := bk, ct := ct } : Ends).nx σ H := h
/-! ### _law_net(tin, 5, 5) -/
def W_net (K : PySem.W.Frag) : List PyData → Nat → (V → Hp → Prop) → Prop := fun ds c Pp => ds = [nD 5, nD 5] ∧ c = 13 ∧ Pp = fun v G => ∃ (n : Nat) (gs : Gs), Dp K G v (webD n gs) ∧ 1 ≤ n ∧ WebOk n gs ∧ gs.length ≤ 5
theorem sc__law_net : FnScope ["_law_tin", "_law_places_so", "_law_guests_so", "_law_many_so", "_law_long_so", "_law_found", "_law_lap"] ["_law_tin", "_law_places_so", "_law_guests_so"] (defScope s__law_net) := ⟨rfl, rfl, rfl, by decide +kernel, rfl, by decide +kernel, by decide +kernel⟩
theorem c_law_net (T : Tx mg) (D : Dn K mg "_law_net" s__law_net ["_law_tin", "_law_places_so", "_law_guests_so"]) (k__law_take : Cal P w K mg base 1 "_law_take" (spW K W_take)) (k__law_pick : Cal P w K mg base 2 "_law_pick" (spW K (W_pick K))) : Cal P w K mg base 3 "_law_net" (spW K (W_net K)) := by
  refine D.prW sc__law_net (fun ds c Pp h => by obtain ⟨rfl, _⟩ := h; rfl) (fun f cdv A outer s H E t vs ds c Pp hr hR => ?_)
  obtain ⟨rfl, rfl, rfl⟩ := hR
  refine ⟨_, (pss_cons (ps_par3 (i := 3) (j := 4) (l := 5) rfl sc__law_net.nd rfl rfl rfl (by decide) (by decide) (by decide) rfl rfl rfl (pa_cons (pe_op op_add pe_int (pe_ca k__law_take hr (by decide) rfl (pa_cons (pv 0) (pa_cons (pv 1) pa_nil)))) (pa_cons (pe_ca k__law_take hr (by decide) rfl (pa_cons (pv 0) (pa_cons (pe_op op_add (pv 2) pe_int) pa_nil))) (pa_cons (pe_lst pa_nil) pa_nil))) rfl)
    (pss_cons (ps_if (pt_cmpR op_gt (pe_ca k__law_take hr (by decide) rfl (pa_cons (pv 0) (pa_cons pe_int pa_nil))) pe_int (nomark _))
      (pss_one (ps_par (i := 3) (j := 4) rfl sc__law_net.nd rfl rfl (by decide) rfl rfl (pa_cons (pe_op op_add pe_int (pe_op op_mod (pe_int1 T (pv 3)) (pe_max2 T rfl pe_int (pe_op op_sub (pv 1) pe_int)))) (pa_cons (pe_op op_add pe_int (pe_op op_mod (pe_int1 T (pv 4)) (pe_max2 T rfl pe_int (pe_op op_sub (pv 2) pe_int)))) pa_nil)) rfl))
      pss_nil)
    (pss_cons (ps_for PassesOwn.never rfl (pi_range1 (by rfl) T.range_ (pa_cons (pv 4) pa_nil)) (pg_name (i := 6) sc__law_net.nd rfl (Or.inl rfl))
      (pss_one (ps_if (pt_cmpR op_gt (pv 3) pe_int (nomark _))
        (pss_one (ps_expr (pe_bm PySem.F.plainAttrs_list PySem.F.slot_list_append PySem.F.type_list_append mt_append (pv 5) (pa_cons (pe_tupOf K T (pe_ca k__law_pick hr (by decide) rfl (pa_cons (pv 0) (pa_cons (pe_listRg rfl (by rfl) T.list_ (prg_1 (by rfl) T.range_ (pv 3))) (pa_cons pe_int pa_nil))))) pa_nil))))
        pss_nil)))
    (pss_one (ps_ret (pe_tup (pa_cons (pv 3) (pa_cons (pe_tupOf K T (pv 5)) pa_nil)))))))), fun G ns kk Q h0 tin hk hv q => ?_⟩
  obtain ⟨v1, v2, rfl, h1, h2⟩ := dp2 hv
  cases h1
  cases h2
  refine evw_call (K := K) (M := []) (t := t) (i := 0) (k := kk) (c := 1) (ds := [nD 5]) (R := W_take) rfl (fun ns => ea_one (ev_var rfl (.int _))) ⟨5, rfl, by decide, by decide, rfl, rfl⟩ rfl (by omega) G ns (Same.refl _) tin (dj_one h0) _ fun v G2 ns1 s2 tin1 dj2 hp => ?_
  obtain ⟨r1, rfl, hr1⟩ := hp
  refine ⟨1, _, rfl, rfl, ?_⟩
  refine evw_call (K := K) (M := []) (t := t) (i := 0) (k := kk + 1) (c := 1) (ds := [nD 6]) (R := W_take) rfl (fun ns => ea_one (ev_I0 (z := nD 6) (ev_var rfl (.int 5)) ev_int (fun _ => .int 6))) ⟨6, rfl, by decide, by decide, rfl, rfl⟩ rfl (by omega) G2 ns1 (Same.refl _) tin1 dj2 _ fun v G3 ns2 s3 tin2 dj3 hp => ?_
  obtain ⟨r2, rfl, hr2⟩ := hp
  refine ⟨by decide, fun fo hfo => ?_⟩
  have n2 := jn_none hfo
  have hft : fo ≠ t := fun e => by
    have := n2.1
    rw [e] at this
    have h : ([(t, ns2)] : Mh).lookup t = none := this
    rw [lk_here] at h
    cases h
  rw [jn_put]
  refine ⟨_, _, _, rfl, ?_⟩
  have dj4 : Dj G3 ((fo, []) :: [(t, ns2)]) := dj_put dj3 n2.2
  have s03 := s2.trans s3
  refine un_nx ?_
  refine s_join (fun σ' H' => ∃ (many long : Nat) (G4 : Hp) (ns4 : List V), σ' = [some (.ref t), some (.int 5), some (.int 5), some (.int ((many : Nat) : Int)), some (.int ((long : Nat) : Int)), some (.ref fo), none] ∧ H' = jn G4 ((fo, []) :: [(t, ns4)]) ∧ 1 ≤ many ∧ many ≤ 1000 ∧ long ≤ 5 ∧ Same G G4 ∧ Tin (kk + 3) ns4 ∧ Dj G4 ((fo, []) :: [(t, ns4)])) ?_ (fun Nx hNx => ?_)
  · rintro σ' H' ⟨many, long, G4, ns4, rfl, rfl, hm1, hm2, hl5, s4, tin4, dj4⟩
    have hI := ei_rngD (K := K) (M := (fo, []) :: [(t, ns4)]) (σ := [some (.ref t), some (.int 5), some (.int 5), some (.int ((many : Nat) : Int)), some (.int ((long : Nat) : Int)), some (.ref fo), none]) (te := tVar 4) (n := long) (G := G4) (ev_var rfl (.int _)) (by omega)
    refine s_for hI (fun j σ1 G1 M1 => ∃ (gs : Gs) (ns' xs : List V) (x : Option V), σ1 = [some (.ref t), some (.int 5), some (.int 5), some (.int ((many : Nat) : Int)), some (.int ((long : Nat) : Int)), some (.ref fo), x] ∧ M1 = (fo, xs) :: [(t, ns')] ∧ DpAll K G1 xs (gs.map gD) ∧ Tin (kk + 3 + 2 * j) ns' ∧ WebOk many gs ∧ gs.length ≤ j) dj4 (fun _ _ _ => ⟨[], ns4, [], none, rfl, rfl, .nil, tin4, fun g hg => by simp at hg, Nat.le_refl _⟩) ?_ ?_ ?_
    · rintro j σ1 G5 G6 M3 s6 ⟨gs, ns', xs, x, e1, e2, e3, e4⟩
      exact ⟨gs, ns', xs, x, e1, e2, e3.mono s6, e4⟩
    · rintro G5 s5 j d σ1 G6 M3 x hd s6 dj6 ⟨gs, ns', xs, x6, rfl, rfl, hx, tin', hw, hgl⟩ hv
      have hj : j < long := by
        have := (List.getElem?_eq_some_iff.mp hd).1
        rw [List.length_map, List.length_range] at this
        exact this
      refine st_if (b := decide ((many : Nat) > (1 : Int))) (eb_test (K := K) (ev_I0 (g := fun i j => V.bl (decide (i > j))) (ev_var rfl (.int _)) ev_int (fun _ => .bl _))) dj6 (fun b G7 s7 dj7 => ?_) (fun b G7 s7 dj7 => ?_)
      · rw [decide_eq_true_eq] at b
        refine ⟨.ref fo, rfl, .inl ⟨rfl, _, .of jn_mine⟩, ?_⟩
        refine evw_tupOf (K := K) (M := [(fo, xs)]) (t := t) (k := kk + 3 + 2 * j) (k' := kk + 3 + 2 * j + 2) (f := fun qs : List Nat => qs.map nD) (Z := PickOk many 2) (evw_call (K := K) (M := [(fo, xs)]) (i := 0) (ds := [.list ((List.range many).map nD), nD 2]) (R := W_pick K) rfl (fun ns => ea_two (EvM.toE (evm_lstRg (ev_var rfl (.int _)) (by omega))) ev_int) ⟨many, rfl, hm2, rfl⟩ (by rw [lk_cons, if_neg (Ne.symm hft)]; rfl) (by omega)) G7 ns' (Same.refl _) tin' dj7 _ fun v G8 ns8 s8 tin8 dj8 hp => ?_
        obtain ⟨qs, hd2, nd, lt, hql⟩ := hp
        rw [Nat.min_eq_left (by omega)] at hql
        obtain ⟨a, b', rfl⟩ : ∃ a b', qs = [a, b'] := by
          match qs, hql with
          | [a, b'], _ => exact ⟨a, b', rfl⟩
        have hab : a ≠ b' := by simpa using nd
        refine ⟨fo, xs, v, rfl, rfl, jn_mine, ?_, ?_⟩
        · have := hx.len
          rw [List.length_map] at this
          exact Nat.lt_of_le_of_lt (by omega : xs.length ≤ 1000) (by decide)
        · show Ends.nx _ _ (upd (jn G8 ((fo, xs) :: [(t, ns8)])) fo _)
          rw [jn_set]
          refine nd_of rfl (s6.trans (s7.trans s8)) (dj_set (show Dj G8 ((fo, xs) :: [(t, ns8)]) from dj8)) ⟨gs ++ [(a, b')], ns8, _, _, rfl, rfl, ?_, tin8.up (by omega), ?_, ?_⟩
          · rw [List.map_append]
            exact (hx.mono (s7.trans s8)).app (.one hd2)
          · intro g hg
            rcases List.mem_append.mp hg with hg | hg
            · exact hw g hg
            · rw [List.mem_singleton] at hg
              rw [hg]
              exact ⟨lt a (by simp), lt b' (by simp), hab⟩
          · rw [List.length_append]
            show gs.length + 1 ≤ j + 1
            omega
      · exact nt_of rfl (s6.trans s7) dj7 ⟨gs, ns', xs, _, rfl, rfl, hx.mono s7, tin'.up (by omega), hw, by omega⟩
    · rintro σ1 G5 M3 s5 dj5 ⟨gs, ns', xs, x6, rfl, rfl, hx, tin', hw, hgl⟩
      rw [List.length_map, List.length_range] at tin' hgl
      have ev := ev_tup (K := K) (M := (fo, xs) :: [(t, ns')]) (σ := [some (.ref t), some (.int 5), some (.int 5), some (.int ((many : Nat) : Int)), some (.int ((long : Nat) : Int)), some (.ref fo), x6]) (G := G5) (ds := [nD many, .tuple (gs.map gD)]) (ta := tCons (tVar 3) (tCons (tCB (rTupOf K) (tCons (tVar 5) tNil)) tNil)) (ea_two (ev_var rfl (.int _)) (ev_tupOf (EvL.toS (evl_var rfl lk_here hx)))) (by show 2 ≤ 100000; decide)
      refine ev G5 (Same.refl _) dj5 _ fun v G6 s6 dj6 hv => ?_
      have l1 : ([(t, ns')] : Mh).lookup fo = none := by
        rw [lk_cons, if_neg hft]
        rfl
      have n6 := dj_here dj6
      rw [jn_give l1]
      exact q v _ ns' (s4.trans (s5.trans (s6.trans (same_new n6)))) (dj_here (dj_give dj6 l1)) (tin'.up (by omega)) ⟨many, gs, hv.mono (same_new n6), hm1, hw, by omega⟩
  · refine evw_call (K := K) (M := [(fo, [])]) (σ := [some (.ref t), some (.int 5), some (.int 5), some (.int (1 + ((r1 : Nat) : Int))), some (.int ((r2 : Nat) : Int)), some (.ref fo), none]) (t := t) (i := 0) (k := kk + 1 + 1) (c := 1) (ds := [nD 10]) (R := W_take) rfl (fun ns => ea_one ev_int) ⟨10, rfl, by decide, by decide, rfl, rfl⟩ (by rw [lk_cons, if_neg (Ne.symm hft)]; rfl) (by omega) G3 ns2 (Same.refl _) tin2 dj4 _ fun v G4 ns3 s4 tin3 dj5 hp => ?_
    obtain ⟨r3, rfl, hr3⟩ := hp
    refine ⟨_, 0, rfl, rfl, _, rfl, ?_⟩
    have e1 : (1 : Int) + ((r1 : Nat) : Int) = ((1 + r1 : Nat) : Int) := by omega
    by_cases h3 : ((r3 : Nat) : Int) > 0
    · rw [decide_eq_true h3]
      refine iteT ?_
      have m4 : ∀ z : Nat, (((z : Nat) : Int) % (if (5 - 1 : Int) > 1 then (5 - 1 : Int) else 1)) = ((z % 4 : Nat) : Int) := fun z => by
        rw [if_pos (by decide)]
        omega
      have one : ∀ (x y : Nat) (z : Nat) (σ : L2.St), σ[x]? = some (some (.int ((z : Nat) : Int))) → σ[y]? = some (some (.int 5)) → Ev K ((fo, []) :: [(t, ns3)]) (tOp (rI0 fun i j => V.int (i + j)) (tC (.int 2)) (tOp (rI (fun _ j => 0 < j) fun i j => V.int (i % j)) (tCB rInt1 (tCons (tVar x) tNil)) (tCB rMax2 (tCons (tC (.int 1)) (tCons (tOp (rI0 fun i j => V.int (i - j)) (tVar y) (tC (.int 1))) tNil))))) σ G4 (nD (2 + z % 4)) := fun x y z σ hx hy => by
        refine ev_I0 (i := 2) (j := ((z % 4 : Nat) : Int)) ev_int (ev_I (i := ((z : Nat) : Int)) (j := if (5 - 1 : Int) > 1 then (5 - 1 : Int) else 1) (ev_int1 (ev_var hx (.int _))) (ev_max2 (i := 1) (j := 5 - 1) ev_int (ev_I0 (i := 5) (j := 1) (ev_var hy (.int _)) ev_int (fun _ => .int _))) (by decide) (fun _ => by rw [m4]; exact .int _)) (fun _ => ?_)
        show Dp _ _ (.int (2 + ((z % 4 : Nat) : Int))) (.int ((2 + z % 4 : Nat) : Int))
        rw [show ((2 + z % 4 : Nat) : Int) = 2 + ((z % 4 : Nat) : Int) by omega]
        exact .int _
      have ea := ea_two (one 3 1 (1 + r1) [some (.ref t), some (.int 5), some (.int 5), some (.int (1 + ((r1 : Nat) : Int))), some (.int ((r2 : Nat) : Int)), some (.ref fo), none] (by rw [← e1]; rfl) rfl) (one 4 2 r2 [some (.ref t), some (.int 5), some (.int 5), some (.int (1 + ((r1 : Nat) : Int))), some (.int ((r2 : Nat) : Int)), some (.ref fo), none] rfl rfl)
      refine ea G4 (Same.refl _) dj5 _ fun vs G5 s5 dj6 hvs => ?_
      obtain ⟨w1, w2, rfl, hw1, hw2⟩ := dp2 hvs
      cases hw1
      cases hw2
      exact ⟨_, _, rfl, hNx _ _ ⟨2 + (1 + r1) % 4, 2 + r2 % 4, G5, ns3, rfl, rfl, by omega, by omega, by omega, s03.trans (s4.trans s5), tin3, dj6⟩⟩
    · rw [decide_eq_false h3]
      refine iteF ?_
      exact hNx _ _ ⟨1 + r1, r2, G4, ns3, by rw [← e1]; rfl, rfl, by omega, by omega, by omega, s03.trans s4, tin3, dj5⟩
end
end Lw
/-! text K10 -/
set_option Elab.async false
set_option linter.all false
set_option maxRecDepth 100000
set_option maxHeartbeats 2000000
namespace Lw
open PySem PySem.Spec PyProof.Rows L2
/-! ### lists whose items are told by a relation -/
def RL {α : Type} (R : Hp → V → α → Prop) (G : Hp) (xs : List V) (l : List α) : Prop := xs.length = l.length ∧ ∀ (i : Nat) (x : V) (a : α), xs[i]? = some x → l[i]? = some a → R G x a
section
variable {α : Type} {R : Hp → V → α → Prop} {G : Hp} {xs : List V} {l : List α}
theorem RL.nil : RL R G [] [] := ⟨rfl, fun i x a h => by simp at h⟩
theorem RL.mono {G' : Hp} (m : ∀ x a G1 G2, Same G1 G2 → R G1 x a → R G2 x a) (s : Same G G') (h : RL R G xs l) : RL R G' xs l := ⟨h.1, fun i x a h1 h2 => m _ _ _ _ s (h.2 i x a h1 h2)⟩
theorem RL.app {x : V} {a : α} (h : RL R G xs l) (hx : R G x a) : RL R G (xs ++ [x]) (l ++ [a]) := by
  refine ⟨by rw [List.length_append, List.length_append, h.1]; rfl, fun i y b h1 h2 => ?_⟩
  by_cases hi : i < xs.length
  · rw [List.getElem?_append_left hi] at h1
    rw [List.getElem?_append_left (by rw [← h.1]; exact hi)] at h2
    exact h.2 i y b h1 h2
  · rw [List.getElem?_append_right (by omega)] at h1
    rw [List.getElem?_append_right (by rw [← h.1]; omega), ← h.1] at h2
    have e : i - xs.length = 0 := by
      rcases Nat.eq_zero_or_pos (i - xs.length) with e | e
      · exact e
      · rw [List.getElem?_eq_none (by show 1 ≤ _; omega)] at h1
        cases h1
    rw [e] at h1 h2
    cases h1
    cases h2
    exact hx
end
section
variable {K : PySem.W.Frag} {M : Mh} {σ : L2.St} {G : Hp} {ta tb te : TE} {D : Ends} {us : TS} {i j k : Nat} {p : Addr} {xs : List V}
theorem evr_of {v : V} {Pp : V → Hp → Prop} (h : σ[i]? = some (some v)) (hp : ∀ G2, Same G G2 → Pp v G2) : EvR M (tVar i) σ G Pp := fun G1 s dj Q q => ⟨v, h, q v G1 (Same.refl _) dj (hp G1 s)⟩
theorem evr_pair {P1 P2 : V → Hp → Prop} (h1 : EvR M ta σ G P1) (m1 : ∀ v G1 G2, Same G1 G2 → P1 v G1 → P1 v G2) (h2 : EvR M tb σ G P2) (m2 : ∀ v G1 G2, Same G1 G2 → P2 v G1 → P2 v G2) : EvR M (tTup (tCons ta (tCons tb tNil))) σ G (fun v G2 => ∃ a v1 v2, v = .ref a ∧ SqT K G2 a [v1, v2] ∧ P1 v1 G2 ∧ P2 v2 G2) := fun G1 s dj Q q =>
  h1 G1 s dj _ fun v1 G2 s2 dj2 hv1 => h2 G2 (s.trans s2) dj2 _ fun v2 G3 s3 dj3 hv2 => ⟨by show 2 ≤ sizeLine; decide, fun a ha => by
    have n := jn_none ha
    rw [jn_new ha]
    exact q _ _ (s2.trans (s3.trans (same_new n.2))) (dj_new dj3 ha) ⟨a, v1, v2, rfl, .of upd_same, m1 _ _ _ (s3.trans (same_new n.2)) hv1, m2 _ _ _ (same_new n.2) hv2⟩⟩
theorem st_appendR {Pp : V → Hp → Prop} (hp : σ[k]? = some (some (.ref p))) (h : EvR ((p, xs) :: M) te σ G Pp) (hl : xs.length ≤ 100000) (dj : Dj G ((p, xs) :: M)) (q : ∀ v G2, Same G G2 → Dj G2 ((p, xs ++ [v]) :: M) → Pp v G2 → D.nx σ (jn G2 ((p, xs ++ [v]) :: M))) :
    tDrop (tBM K "list" rAppend (tVar k) (tCons te tNil)) D σ (jn G ((p, xs) :: M)) :=
  ⟨.ref p, hp, .inl ⟨rfl, _, .of jn_mine⟩, h G (Same.refl _) dj _ fun v G2 s dj2 hv => ⟨p, xs, v, rfl, rfl, jn_mine, Nat.lt_of_le_of_lt hl (by decide), by
    rw [jn_set]
    exact q v G2 s (dj_set dj2) hv⟩⟩
theorem g_twoR {a : Addr} {v1 v2 : V} {Q : L2.St → Hp → Prop} (dj : Dj G M) (h : SqT K G a [v1, v2]) (q : Q ((σ.set i (some v1)).set k (some v2)) (jn G M)) : gTup K 2 (gCons (gName i) (gCons (gName k) gNil)) (.ref a) σ (jn G M) Q := ⟨a, _, rfl, sq_jnT dj h, rfl, _, _, rfl, _, _, rfl, rfl, q⟩
/-- for .. in a list that stands -/
theorem ef_forG {g : TG} {tb : TS} (hp : σ[i]? = some (some (.ref p))) (hG : G p = some (.lst xs)) (Pv : Nat → L2.St → Hp → Mh → Prop) (dj : Dj G M) (h0 : Pv 0 σ G M)
    (hs : ∀ j σ1 G3 M3 x, xs[j]? = some x → Same G G3 → Dj G3 M3 → Pv j σ1 G3 M3 → g x σ1 (jn G3 M3) fun σ2 H2 => tb { D with nx := Nx G (Pv (j + 1)), ct := Nx G (Pv (j + 1)), bk := D.nx } σ2 H2)
    (hd : ∀ σ1 G3 M3, Same G G3 → Dj G3 M3 → Pv xs.length σ1 G3 M3 → D.nx σ1 (jn G3 M3)) : tFor (iList K (tVar i)) g tb D σ (jn G M) := by
  have wk := walk_list (K := K) (a := p) (xs := xs)
  refine ⟨.ref p, hp, p, rfl, ⟨xs, .of (jn_at dj hG)⟩, ?_⟩
  refine ⟨fun i m σ H => m = xs.length - i ∧ i ≤ xs.length ∧ ∃ G3 M3, H = jn G3 M3 ∧ Same G G3 ∧ Dj G3 M3 ∧ Pv i σ G3 M3, ⟨xs.length, by simp, Nat.zero_le _, G, M, rfl, Same.refl _, dj, h0⟩, ?_⟩
  rintro j m σ1 H ⟨rfl, hi, G3, M3, rfl, s3, dj3, pv⟩
  have S : SqL K (jn G3 M3) p xs := .of (jn_at dj3 (s3 _ _ hG))
  by_cases hlt : j < xs.length
  · refine .inr ⟨wk.goes j _ hlt S, fun σ' H' => ∃ G4 M4, H' = jn G4 M4 ∧ Same G G4 ∧ Dj G4 M4 ∧ Pv (j + 1) σ' G4 M4, fun σ' H' ⟨G4, M4, z1, z2, z3, z4⟩ => ⟨xs.length - (j + 1), by omega, rfl, hlt, G4, M4, z1, z2, z3, z4⟩, fun x H' y => ?_⟩
    obtain ⟨e1, e2⟩ := wk.yields j _ x H' hlt S y
    subst e1
    exact hs j σ1 G3 M3 x e2 s3 dj3 pv
  · have e : j = xs.length := by omega
    subst e
    exact .inl ⟨wk.stops _ S, hd σ1 G3 M3 s3 dj3 pv⟩
theorem s_forG {g : TG} {tb : TS} (hp : σ[i]? = some (some (.ref p))) (hG : G p = some (.lst xs)) (Pv : Nat → L2.St → Hp → Mh → Prop) (dj : Dj G M) (h0 : Pv 0 σ G M)
    (hs : ∀ j σ1 G3 M3 x, xs[j]? = some x → Same G G3 → Dj G3 M3 → Pv j σ1 G3 M3 → g x σ1 (jn G3 M3) fun σ2 H2 => tb { D with nx := Nx G (Pv (j + 1)), ct := Nx G (Pv (j + 1)), bk := us D } σ2 H2)
    (hd : ∀ σ1 G3 M3, Same G G3 → Dj G3 M3 → Pv xs.length σ1 G3 M3 → us D σ1 (jn G3 M3)) : tSeq (tFor (iList K (tVar i)) g tb) us D σ (jn G M) := ef_forG (D := { D with nx := us D }) hp hG Pv dj h0 hs hd
/-- [e for x in a list that stands if ..] -/
theorem ev_lcG {α β : Type} {R : Hp → V → α → Prop} {R2 : Hp → V → β → Prop} (m2 : ∀ x a G1 G2, Same G1 G2 → R2 G1 x a → R2 G2 x a) {l : List α} (f : α → β) (pt : α → Bool) {tt : TT} {vs : List Nat} (hp : σ[i]? = some (some (.ref p))) (hG : G p = some (.lst xs)) (hx : RL R G xs l) (hl : l.length ≤ 100000)
    (hb : ∀ (n : Nat) (a : α) (x : V), xs[n]? = some x → l[n]? = some a → R G x a → ∀ D acc, M.lookup D = none → ∀ G1, Same G G1 → Dj G1 ((D, acc) :: M) → wipe ((wipe σ vs).set j (some x)) vs = wipe σ vs ∧ EvB ((D, acc) :: M) tt ((wipe σ vs).set j (some x)) G1 (pt a) ∧ (pt a = true → EvR ((D, acc) :: M) te ((wipe σ vs).set j (some x)) G1 (fun v G2 => R2 G2 v (f a)))) :
    ∀ G1, Same G G1 → Dj G1 M → ∀ Q : VK, (∀ q ys G2, Same G1 G2 → M.lookup q = none → Dj G2 ((q, ys) :: M) → RL R2 G2 ys ((l.filter pt).map f) → Q (.ref q) (jn G2 ((q, ys) :: M))) → tLc (iList K (tVar i)) (gName j) tt te vs σ (jn G1 M) Q := fun G1 s dj Q q => by
  have wk := walk_list (K := K) (a := p) (xs := xs)
  refine ⟨.ref p, hp, p, rfl, ⟨xs, .of (jn_at dj (s _ _ hG))⟩, ?_⟩
  intro Da hD
  have n := jn_none hD
  have hxl := hx.1
  refine ⟨fun n m H => m = xs.length - n ∧ n ≤ xs.length ∧ ∃ G3 acc, H = jn G3 ((Da, acc) :: M) ∧ Same G1 G3 ∧ Dj G3 ((Da, acc) :: M) ∧ RL R2 G3 acc (((l.take n).filter pt).map f), ⟨xs.length, by simp, Nat.zero_le _, G1, [], by rw [jn_put], Same.refl _, dj_put dj n.2, RL.nil⟩, ?_⟩
  rintro a m H ⟨rfl, hi, G3, acc, rfl, s3, dj3, hacc⟩
  have S : SqL K (jn G3 ((Da, acc) :: M)) p xs := .of (jn_at dj3 (s3 _ _ (s _ _ hG)))
  by_cases hlt : a < xs.length
  · refine .inr ⟨wk.goes a _ hlt S, fun H' => ∃ G4 acc', H' = jn G4 ((Da, acc') :: M) ∧ Same G1 G4 ∧ Dj G4 ((Da, acc') :: M) ∧ RL R2 G4 acc' (((l.take (a + 1)).filter pt).map f), fun H' ⟨G4, acc', z1, z2, z3, z4⟩ => ⟨xs.length - (a + 1), by omega, rfl, hlt, G4, acc', z1, z2, z3, z4⟩, fun x H' y => ?_⟩
    obtain ⟨e1, e2⟩ := wk.yields a _ x H' hlt S y
    subst e1
    have ha : l[a]? = some (l[a]'(by omega)) := List.getElem?_eq_getElem (by omega)
    generalize l[a]'(by omega) = b at ha
    obtain ⟨hw, hT, hE⟩ := hb a b x e2 ha (hx.2 a x b e2 ha) Da acc n.1 G3 (s.trans s3) dj3
    have et : l.take (a + 1) = l.take a ++ [b] := take_more ha
    refine ⟨hw, hT G3 (Same.refl _) dj3 _ fun G6 s6 dj6 => ?_⟩
    cases hpb : pt b with
    | true =>
      refine iteT (hE hpb G6 s6 dj6 _ fun y G7 s7 dj7 hy => ⟨acc, jn_mine, ?_, ?_⟩)
      · rw [hacc.1, List.length_map]
        have := List.length_filter_le pt (l.take a)
        rw [List.length_take] at this
        exact Nat.lt_of_lt_of_le (by omega : _ < 100001) (by decide)
      · refine ⟨G7, acc ++ [y], jn_set _ _ _ _ _, s3.trans (s6.trans s7), dj_set dj7, ?_⟩
        rw [et, List.filter_append, List.filter_cons_of_pos hpb, List.map_append]
        exact (hacc.mono m2 (s6.trans s7)).app hy
    | false =>
      refine iteF ⟨G6, acc, rfl, s3.trans s6, dj6, ?_⟩
      rw [et, List.filter_append, List.filter_cons_of_neg (by rw [hpb]; simp), List.filter_nil, List.append_nil]
      exact hacc.mono m2 s6
  · have e : a = xs.length := by omega
    subst e
    refine .inl ⟨wk.stops _ S, ?_⟩
    rw [hxl, List.take_length] at hacc
    exact q Da acc G3 s3 n.1 dj3 hacc
end
end Lw
/-! text L4 -/
set_option Elab.async false
set_option linter.all false
set_option maxRecDepth 100000
set_option maxHeartbeats 4000000
namespace Lw
open PySem PySem.Spec PyProof.Rows L2
section
variable {P : Program} {w : World} {K : PySem.W.Frag} {mg : Str → Option Value} {base : Heap}
/-! ### _law_seat(net, taken, k) -/
def R_law_seat : List PyData → PyData → Prop := fun ds d => ∃ (n : Nat) (gs : Gs) (tk : List (Option Nat)) (k : Nat), ds = [webD n gs, tD tk, nD k] ∧ k < gs.length ∧ d = oD (seat gs tk k)
theorem sc__law_seat : FnScope ["_law_net_here", "_law_taken_so", "_law_k", "_law_near_so", "_law_far_so"] ["_law_net_here", "_law_taken_so", "_law_k"] (defScope s__law_seat) := ⟨rfl, rfl, rfl, by decide +kernel, rfl, by decide +kernel, by decide +kernel⟩
theorem c_law_seat (D : Dn K mg "_law_seat" s__law_seat ["_law_net_here", "_law_taken_so", "_law_k"]) : Cal P w K mg base 1 "_law_seat" (Pr K R_law_seat) := by
  refine D.pr sc__law_seat (fun ds d h => by obtain ⟨_, _, _, _, rfl, _⟩ := h; rfl) (fun f cdv A outer s H E vs ds d hr h hv => ?_)
  obtain ⟨n, gs, tk, k, rfl, hk, rfl⟩ := h
  obtain ⟨v0, v1, v2, rfl, h0, h1, h2⟩ := dp3 hv
  refine ⟨_, (pss_cons (ps_asg (xT K (xT K (pv 0) pe_int) (pv 2)) (pg2 K rfl (pgs_cons (pg_name (i := 3) sc__law_seat.nd rfl (Or.inl rfl)) (pgs_cons (pg_name (i := 4) sc__law_seat.nd rfl (Or.inl rfl)) pgs_nil))))
    (pss_cons (ps_if (pt_ni K (pv 3) (pv 1))
      (pss_one (ps_ret (pv 3)))
      pss_nil)
    (pss_one (ps_ret (pe_ifExp (pt_ni K (pv 4) (pv 1)) (pv 4) pe_non))))), fun Q q => ?_⟩
  refine s_asg (ev_ixT (ds := gs.map gD) (ev_ixT (d := .tuple (gs.map gD)) (ev_var rfl h0) ev_int rfl) (ev_var rfl h2) (web_guest hk)) (dj_nil _) fun v G2 s2 dj2 hv => g_two dj2 hv fun v3 v4 h3 h4 => ?_
  have h1 := h1.mono s2
  unfold seat at q
  refine s_ifN (eb_test (ev_inT (neg := true) (o := some (gs.getD k (0, 0)).1) (os := tk) (ev_var rfl h3) (ev_var rfl h1))) dj2 (fun b G3 s3 dj3 => ?_) (fun b G3 s3 dj3 => ?_)
  · rw [if_pos rfl, Bool.not_eq_true', decide_eq_false_iff_not] at b
    rw [if_neg b] at q
    exact fin (e := oD (some (gs.getD k (0, 0)).1)) q (s2.trans s3) (ev_var rfl (h3.mono s3))
  · rw [if_pos rfl, Bool.not_eq_false', decide_eq_true_eq] at b
    rw [if_pos b] at q
    refine fin (e := oD (if some (gs.getD k (0, 0)).2 ∈ tk then none else some (gs.getD k (0, 0)).2)) q (s2.trans s3) (ev_if (eb_test (ev_inT (neg := true) (o := some (gs.getD k (0, 0)).2) (os := tk) (ev_var rfl (h4.mono s3)) (ev_var rfl (h1.mono s3)))) (fun b2 => ?_) (fun b2 => ?_))
    · rw [if_pos rfl, Bool.not_eq_true', decide_eq_false_iff_not] at b2
      rw [if_neg b2]
      exact ev_var rfl (h4.mono s3)
    · rw [if_pos rfl, Bool.not_eq_false', decide_eq_true_eq] at b2
      rw [if_pos b2]
      exact ev_non
/-! ### _law_all_runs(net) -/
def WkV (K : PySem.W.Frag) (G : Hp) (v : V) (p : List Nat) : Prop := Dp K G v (rD p) ∧ (2 ≤ p.length → Nd G v)
theorem WkV.mono {v : V} {p : List Nat} {G1 G2 : Hp} (s : Same G1 G2) (h : WkV K G1 v p) : WkV K G2 v p := ⟨h.1.mono s, fun l => (h.2 l).mono s⟩
def RunV (K : PySem.W.Frag) (f : List Nat → PyData) (G : Hp) (x : V) (p : List Nat) : Prop := ∃ a v1 v2, x = .ref a ∧ SqT K G a [v1, v2] ∧ WkV K G v1 p ∧ Dp K G v2 (f p)
theorem RunV.mono {f : List Nat → PyData} (x : V) (p : List Nat) (G1 G2 : Hp) (s : Same G1 G2) (h : RunV K f G1 x p) : RunV K f G2 x p := by
  obtain ⟨a, v1, v2, e, h1, h2, h3⟩ := h
  exact ⟨a, v1, v2, e, seqT s h1, h2.mono s, h3.mono s⟩
theorem moreN_len {m : Nat} : ∀ (n : Nat) (ws : List (List Nat)), (moreN m n ws).length ≤ ws.length * m ^ n
  | 0, ws => by rw [Nat.pow_zero, Nat.mul_one]; exact Nat.le_refl _
  | n + 1, ws => by
    rw [moreN_succ]
    refine Nat.le_trans (more_length m _) ?_
    rw [Nat.pow_succ, ← Nat.mul_assoc]
    exact Nat.mul_le_mul_right m (moreN_len n ws)
theorem moreN_small {m i : Nat} (hm : m ≤ 5) (hi : i ≤ 5) : (moreN m i [[]]).length ≤ 3125 := by
  refine Nat.le_trans (moreN_len i [[]]) ?_
  rw [List.length_singleton, Nat.one_mul]
  refine Nat.le_trans (Nat.pow_le_pow_left hm i) ?_
  exact Nat.le_trans (Nat.pow_le_pow_right (by decide) hi) (by decide)
theorem moreN_mem {m i : Nat} {p : List Nat} (h : p ∈ moreN m i [[]]) : p.length = i ∧ p.Nodup ∧ ∀ k ∈ p, k < m := by
  rw [moreN_perms, show p = [] ++ p from rfl, mem_perms] at h
  exact ⟨h.1, h.2.1, fun k hk => (h.2.2 k hk).1⟩
theorem more_append (m : Nat) (a b : List (List Nat)) : more m (a ++ b) = more m a ++ more m b := by
  unfold more
  rw [List.flatMap_append]
theorem more_one (m : Nat) (p : List Nat) : more m [p] = (cands m p).map fun k => p ++ [k] := by
  unfold more
  rw [List.flatMap_cons, List.flatMap_nil, List.append_nil]
def spRuns (K : PySem.W.Frag) : Sp := fun vs H Q _ => ∃ (v0 : V) (n : Nat) (gs : Gs), vs = [v0] ∧ Dp K H v0 (webD n gs) ∧ gs.length ≤ 5 ∧ ∀ H' q ys, Same H H' → H' q = some (.lst ys) → RL (RunV K fun p => tD (outc gs p)) H' ys (perms gs.length [] gs.length) → Q (.ref q) H'
theorem sc__law_all_runs : FnScope ["_law_net_here", "_law_many_so", "_law_found", "_law_lap", "_law_later_so", "_law_walk_here", "_law_taken_so", "_law_k", "_law_told_so", "_law_seats", "_law_own"] ["_law_net_here"] (defScope s__law_all_runs) := ⟨rfl, rfl, rfl, by decide +kernel, rfl, by decide +kernel, by decide +kernel⟩
theorem flat_one {α : Type} (x : α) : ∀ n : Nat, (List.replicate n [x]).flatten = List.replicate n x
  | 0 => rfl
  | n + 1 => by rw [List.replicate_succ, List.flatten_cons, flat_one x n]; rfl
/-- [e] -/
theorem lst1R {M : Mh} {σ : L2.St} {G : Hp} {ta : TE} {P1 : V → Hp → Prop} (h : EvR M ta σ G P1) : ∀ G1, Same G G1 → Dj G1 M → ∀ Q : VK, (∀ p x G2, Same G1 G2 → M.lookup p = none → Dj G2 ((p, [x]) :: M) → P1 x G2 → Q (.ref p) (jn G2 ((p, [x]) :: M))) → tLst (tCons ta tNil) σ (jn G1 M) Q := fun G1 s dj Q q => h G1 s dj _ fun x G2 s2 dj2 hx => ⟨by show 1 ≤ sizeLine; decide, fun p hp => by
    have n := jn_none hp
    rw [jn_put]
    exact q p x G2 s2 n.1 (dj_put dj2 n.2) hx⟩
theorem st_var {D : Ends} {σ : L2.St} {H : Hp} {i k : Nat} {v : V} (h : σ[i]? = some (some v)) (q : D.nx (σ.set k (some v)) H) : tAsg (tVar i) (gName k) D σ H := ⟨v, h, q⟩
/-- [None] * n -/
theorem evm_rep {M : Mh} {σ : L2.St} {G : Hp} {ta tb : TE} {d : PyData} {n : Nat} (ha : EvM K M ta σ G [d]) (hb : ∀ p ys G2, Same G G2 → Ev K ((p, ys) :: M) tb σ G2 (nD n)) (hn : n ≤ 1000) : EvM K M (tOp rRep ta tb) σ G (List.replicate n d) := fun G1 s dj Q q => ha G1 s dj _ fun p xs G2 s2 hm dj2 hx => hb p xs G2 (s.trans s2) G2 (Same.refl _) dj2 _ fun v G3 s3 dj3 hv => by
  cases hv
  obtain ⟨x, rfl, hx1⟩ := dp1 hx
  refine ⟨p, _, [x], rfl, rfl, jn_mine, by omega, by omega, ?_, fun r hr => ?_⟩
  · rw [List.length_singleton, Nat.one_mul, Int.toNat_natCast]
    exact sz (by omega)
  · rw [Int.toNat_natCast, flat_one]
    have n3 := dj_here dj3
    rw [jn_give hm] at hr ⊢
    have hr2 := jn_none hr
    rw [jn_put]
    exact q r _ _ (s2.trans (s3.trans (same_new n3))) hr2.1 (dj_put (dj_give dj3 hm) hr2.2) (dpall_rep (hx1.mono (s3.trans (same_new n3))) n)
theorem c_law_all_runs (T : Tx mg) (D : Dn K mg "_law_all_runs" s__law_all_runs ["_law_net_here"]) (k__law_seat : Cal P w K mg base 1 "_law_seat" (Pr K R_law_seat)) : Cal P w K mg base 2 "_law_all_runs" (spRuns K) := by
  refine D.cal sc__law_all_runs (fun vs H Q E h => by obtain ⟨_, _, _, rfl, _⟩ := h; rfl) (fun f cdv A outer s H vs Q E hr h => ?_)
  obtain ⟨v0, n, gs, rfl, h0, hl, q⟩ := h
  refine ⟨_, (pss_cons (ps_par (i := 1) (j := 2) rfl sc__law_all_runs.nd rfl rfl (by decide) rfl rfl (pa_cons (pe_len K T (xT K (pv 0) pe_int)) (pa_cons (pe_lst (pa_cons (pe_tup (pa_cons (pe_tup pa_nil) (pa_cons (pe_tup pa_nil) pa_nil))) pa_nil)) pa_nil)) rfl)
    (pss_cons (ps_for PassesOwn.never rfl (pi_range1 (by rfl) T.range_ (pa_cons (pv 1) pa_nil)) (pg_name (i := 3) sc__law_all_runs.nd rfl (Or.inl rfl))
      (pss_cons (ps_set (i := 4) sc__law_all_runs.nd rfl (Or.inl rfl) (pe_lst pa_nil))
      (pss_cons (ps_for PassesOwn.never rfl (wi_list K (pv 2)) (pg2 K rfl (pgs_cons (pg_name (i := 5) sc__law_all_runs.nd rfl (Or.inl rfl)) (pgs_cons (pg_name (i := 6) sc__law_all_runs.nd rfl (Or.inl rfl)) pgs_nil)))
        (pss_one (ps_for PassesOwn.never rfl (pi_range1 (by rfl) T.range_ (pa_cons (pv 1) pa_nil)) (pg_name (i := 7) sc__law_all_runs.nd rfl (Or.inl rfl))
          (pss_one (ps_if (pt_ni K (pv 7) (pv 5))
            (pss_one (ps_expr (pe_bm PySem.F.plainAttrs_list PySem.F.slot_list_append PySem.F.type_list_append mt_append (pv 4) (pa_cons (pe_tup (pa_cons (pe_catN K (pv 5) (pe_tup (pa_cons (pv 7) pa_nil))) (pa_cons (pe_catT K (pv 6) (pe_tup (pa_cons (pe_ca k__law_seat hr (by decide) rfl (pa_cons (pv 0) (pa_cons (pv 6) (pa_cons (pv 7) pa_nil)))) pa_nil))) pa_nil))) pa_nil))))
            pss_nil)))))
      (pss_one (ps_set (i := 2) sc__law_all_runs.nd rfl (Or.inl rfl) (pv 4))))))
    (pss_cons (ps_set (i := 8) sc__law_all_runs.nd rfl (Or.inl rfl) (pe_lst pa_nil))
    (pss_cons (ps_for PassesOwn.never rfl (wi_list K (pv 2)) (pg2 K rfl (pgs_cons (pg_name (i := 5) sc__law_all_runs.nd rfl (Or.inl rfl)) (pgs_cons (pg_name (i := 6) sc__law_all_runs.nd rfl (Or.inl rfl)) pgs_nil)))
      (pss_cons (ps_set (i := 9) sc__law_all_runs.nd rfl (Or.inl rfl) (pe_op op_rep (pe_lst (pa_cons pe_non pa_nil)) (pv 1)))
      (pss_cons (ps_for PassesOwn.never rfl (wi_zip K T (pv 5) (pv 6)) (pg2 K rfl (pgs_cons (pg_name (i := 7) sc__law_all_runs.nd rfl (Or.inl rfl)) (pgs_cons (pg_name (i := 10) sc__law_all_runs.nd rfl (Or.inl rfl)) pgs_nil)))
        (pss_one (ps_asg (pv 10) (pg_sub (pv 9) (pv 7) set_list))))
      (pss_one (ps_expr (pe_bm PySem.F.plainAttrs_list PySem.F.slot_list_append PySem.F.type_list_append mt_append (pv 8) (pa_cons (pe_tup (pa_cons (pv 5) (pa_cons (pe_tupOf K T (pv 9)) pa_nil))) pa_nil)))))))
    (pss_one (ps_ret (pv 8))))))), ?_⟩
  rw [← jn_nil H]
  have el : (gs.map gD).length = gs.length := List.length_map _
  -- found = [((), ())]
  have e1 := ev_lenT (K := K) (M := []) (σ := start ["_law_net_here", "_law_many_so", "_law_found", "_law_lap", "_law_later_so", "_law_walk_here", "_law_taken_so", "_law_k", "_law_told_so", "_law_seats", "_law_own"] [v0]) (ta := tOp (rIxT K) (tVar 0) (tC (.int 1))) (G := H) (ev_ixT (d := .tuple (gs.map gD)) (ev_var rfl h0) ev_int rfl)
  rw [el] at e1
  refine e1 H (Same.refl _) (dj_nil _) _ fun v1 G2 s2 dj2 hv1 => ?_
  cases hv1
  refine lst1R (evr_pair (K := K) (M := []) (P1 := fun v G => WkV K G v []) (P2 := fun v G => Dp K G v (tD [])) ((Ev.toR (ev_tup ea_nil)).imp fun v G hv => ⟨hv, fun z => by simp at z⟩) (fun _ _ _ s h => h.mono s) (Ev.toR (ev_tup ea_nil)) (fun _ _ _ s h => h.mono s)) G2 (Same.refl _) dj2 _ fun fp x G3 s3 hfp dj3 hx => ?_
  have n3 := dj_here dj3
  refine ⟨_, _, rfl, un_nx ?_⟩
  rw [jn_give hfp]
  have hx0 : RL (RunV K fun p => tD (taken gs p)) (upd G3 fp (.lst [x])) [x] (moreN gs.length 0 [[]]) := by
    have : RunV K (fun p => tD (taken gs p)) (upd G3 fp (.lst [x])) x [] := RunV.mono x [] _ _ (same_new n3) (by
      obtain ⟨a, w1, w2, e, k1, k2, k3⟩ := hx
      exact ⟨a, w1, w2, e, k1, k2, k3⟩)
    exact RL.app RL.nil this
  have s03 := s2.trans (s3.trans (same_new (o := .lst [x]) n3))
  have h0 := h0.mono s03
  have hm : ∀ f : List Nat → PyData, ∀ (x : V) (a : List Nat) (G1 G2 : Hp), Same G1 G2 → RunV K f G1 x a → RunV K f G2 x a := fun f x a G1 G2 s h => RunV.mono x a G1 G2 s h
  have hI := ei_rngD (K := K) (M := []) (σ := [some v0, some (.int ((gs.length : Nat) : Int)), some (.ref fp), none, none, none, none, none, none, none, none]) (te := tVar 1) (n := gs.length) (G := upd G3 fp (.lst [x])) (ev_var rfl (.int _)) (by omega)
  refine s_for hI (fun i σ1 G1 M1 => M1 = [] ∧ ∃ (fp : Addr) (xs : List V) (x3 x4 x5 x6 x7 : Option V), σ1 = [some v0, some (.int ((gs.length : Nat) : Int)), some (.ref fp), x3, x4, x5, x6, x7, none, none, none] ∧ G1 fp = some (.lst xs) ∧ RL (RunV K fun p => tD (taken gs p)) G1 xs (moreN gs.length i [[]])) (dj_give dj3 hfp) (fun G4 s4 dj4 => ⟨rfl, fp, [x], none, none, none, none, none, rfl, s4 _ _ upd_same, hx0.mono (hm _) s4⟩) ?_ ?_ ?_
  · rintro i σ1 G4 G5 M3 s5 ⟨rfl, fp, xs, x3, x4, x5, x6, x7, e1, e2, e3⟩
    exact ⟨rfl, fp, xs, x3, x4, x5, x6, x7, e1, s5 _ _ e2, e3.mono (hm _) s5⟩
  · rintro G4 s4 i d σ1 G5 M3 x hd s5 dj5 ⟨rfl, fp, xs, x3, x4, x5, x6, x7, rfl, hfp, hxs⟩ hv
    have hi : i < gs.length := by
      have := (List.getElem?_eq_some_iff.mp hd).1
      rw [List.length_map, List.length_range] at this
      exact this
    rw [List.getElem?_map, List.getElem?_range hi] at hd
    cases hd
    have h0 := h0.mono (s4.trans s5)
    generalize hws : moreN gs.length i [[]] = ws at hxs
    have wsl : ws.length ≤ 3125 := by rw [← hws]; exact moreN_small hl (by omega)
    have wsm : ∀ p ∈ ws, p.length ≤ 5 := fun p hp => by
      rw [← hws] at hp
      have := (moreN_mem hp).1
      omega
    refine s_setM (K := K) (evm_lst ea_nil) dj5 fun lp ys0 G6 s6 hlp dj6 hy0 => ?_
    cases hy0
    have h0 := h0.mono s6
    have hfp := s6 _ _ hfp
    have hxs := hxs.mono (hm _) s6
    refine s_forG (K := K) (p := fp) (xs := xs) rfl hfp (fun a σ1 G1 M1 => ∃ (ys : List V) (x5 x6 x7 : Option V), σ1 = [some v0, some (.int ((gs.length : Nat) : Int)), some (.ref fp), some x, some (.ref lp), x5, x6, x7, none, none, none] ∧ M1 = [(lp, ys)] ∧ RL (RunV K fun p => tD (taken gs p)) G1 ys (more gs.length (ws.take a))) dj6 ⟨[], x5, x6, x7, rfl, rfl, RL.nil⟩ ?_ ?_
    · rintro a σ1 G7 M3 y hy s7 dj7 ⟨ys, x5, x6, x7, rfl, rfl, hys⟩
      have ha : a < ws.length := by
        rw [← hxs.1]
        exact (List.getElem?_eq_some_iff.mp hy).1
      have hwa : ws[a]? = some ws[a] := List.getElem?_eq_getElem ha
      have hmem : ws[a] ∈ ws := List.getElem_mem ha
      generalize ws[a] = p at hwa hmem
      have hpl := wsm p hmem
      obtain ⟨ad, w1, w2, rfl, sq, hw1, hw2⟩ := (hxs.2 a y p hy hwa).mono (s := s7)
      have h0 := h0.mono s7
      refine g_twoR dj7 sq ?_
      have hI2 := ei_rngD (K := K) (M := [(lp, ys)]) (σ := [some v0, some (.int ((gs.length : Nat) : Int)), some (.ref fp), some x, some (.ref lp), some w1, some w2, x7, none, none, none]) (te := tVar 1) (n := gs.length) (G := G7) (ev_var rfl (.int _)) (by omega)
      refine ef_for hI2 (fun k σ2 G1 M1 => ∃ (ys : List V) (x7 : Option V), σ2 = [some v0, some (.int ((gs.length : Nat) : Int)), some (.ref fp), some x, some (.ref lp), some w1, some w2, x7, none, none, none] ∧ M1 = [(lp, ys)] ∧ RL (RunV K fun p => tD (taken gs p)) G1 ys (more gs.length (ws.take a) ++ ((List.range k).filter fun k => !decide (k ∈ p)).map fun k => p ++ [k])) dj7 (fun G8 s8 dj8 => ⟨ys, x7, rfl, rfl, by
        rw [show ((List.range 0).filter fun k => !decide (k ∈ p)).map (fun k => p ++ [k]) = [] from rfl, List.append_nil]
        exact hys.mono (hm _) s8⟩) ?_ ?_ ?_
      · rintro k σ1 G8 G9 M3 s9 ⟨ys, x7, e1, e2, e3⟩
        exact ⟨ys, x7, e1, e2, e3.mono (hm _) s9⟩
      · rintro G8 s8 k d σ1 G9 M3 z hd s9 dj9 ⟨ys, x7, rfl, rfl, hys⟩ hz
        have hk : k < gs.length := by
          have := (List.getElem?_eq_some_iff.mp hd).1
          rw [List.length_map, List.length_range] at this
          exact this
        rw [List.getElem?_map, List.getElem?_range hk] at hd
        cases hd
        have hw1 := hw1.mono (s8.trans s9)
        have hw2 := hw2.mono (s8.trans s9)
        have h0 := h0.mono (s8.trans s9)
        have hb := eb_test (ev_inNT (K := K) (M := [(lp, ys)]) (neg := true) (n := k) (ns := p) (ta := tVar 7) (tb := tVar 5) (σ := [some v0, some (.int ((gs.length : Nat) : Int)), some (.ref fp), some x, some (.ref lp), some w1, some w2, some z, none, none, none]) (G := G9) (ev_var rfl hz) (ev_var rfl hw1.1))
        rw [if_pos rfl] at hb
        refine st_if hb dj9 (fun b G10 s10 dj10 => ?_) (fun b G10 s10 dj10 => ?_)
        · have hw1 := hw1.mono s10
          have hw2 := hw2.mono s10
          have h0 := h0.mono s10
          have hz := hz.mono s10
          refine st_appendR (K := K) (p := lp) rfl (evr_pair (K := K) (P1 := fun v G => WkV K G v (p ++ [k])) (P2 := fun v G => Dp K G v (tD (taken gs (p ++ [k])))) ((evr_catN (K := K) (ds := p.map nD) (es := [nD k]) (ev_var rfl hw1.1) (ev_tup (ea_one (ev_var rfl hz)) (by show 1 ≤ 100000; decide)) (by rw [List.length_map]; show _ + 1 ≤ _; omega)).imp fun v G hv => ⟨by unfold rD; rw [List.map_append]; exact hv.1, fun hl2 => hv.2 (fun e => by
            have := congrArg List.length e
            rw [List.length_map] at this
            rw [List.length_append] at hl2
            simp at this hl2
            subst this
            simp at hl2) (by simp)⟩) (fun _ _ _ s h => h.mono s) ((Ev.toR (ev_catT (K := K) (ds := (taken gs p).map oD) (es := [oD (seat gs (taken gs p) k)]) (ev_var rfl hw2) (ev_tup (ea_one (ev_call (ea_cons (ev_var rfl h0) (ea_two (ev_var rfl hw2) (ev_var rfl hz))) ⟨n, gs, taken gs p, k, rfl, hk, rfl⟩)) (by show 1 ≤ 100000; decide)) (by
              rw [List.length_map, show (taken gs p).length = 0 + p.length from goes_length gs p []]
              show _ + 1 ≤ _
              omega))).imp fun v G hv => by rw [taken_snoc]; unfold tD; rw [List.map_append]; exact hv) (fun _ _ _ s h => h.mono s)) ?_ dj10 fun v G11 s11 dj11 hv => ?_
          · rw [hys.1]
            have l1 := more_length gs.length (ws.take a)
            have l2 : (ws.take a).length * gs.length ≤ 3125 * 5 := Nat.mul_le_mul (by rw [List.length_take]; omega) hl
            have l3 := List.length_filter_le (fun k => !decide (k ∈ p)) (List.range k)
            rw [List.length_range] at l3
            rw [List.length_append, List.length_map]
            omega
          · refine nd_of rfl (s9.trans (s10.trans s11)) dj11 ⟨_, _, rfl, rfl, ?_⟩
            rw [List.range_succ, List.filter_append, List.filter_cons_of_pos (p := fun k => !decide (k ∈ p)) b, List.filter_nil, List.map_append, ← List.append_assoc]
            exact (hys.mono (hm _) (s10.trans s11)).app hv
        · refine nt_of rfl (s9.trans s10) dj10 ⟨ys, _, rfl, rfl, ?_⟩
          rw [List.range_succ, List.filter_append, List.filter_cons_of_neg (p := fun k => !decide (k ∈ p)) (by rw [b]; decide), List.filter_nil, List.append_nil]
          exact hys.mono (hm _) s10
      · rintro σ1 G8 M3 s8 dj8 ⟨ys, x7, rfl, rfl, hys⟩
        rw [List.length_map, List.length_range] at hys
        refine nd_of rfl (s7.trans s8) dj8 ⟨ys, _, _, _, rfl, rfl, ?_⟩
        rw [take_more hwa, more_append, more_one]
        exact hys
    · rintro σ1 G7 M3 s7 dj7 ⟨ys, x5, x6, x7, rfl, rfl, hys⟩
      rw [hxs.1, List.take_length, ← hws, ← moreN_succ] at hys
      have n7 := dj_here dj7
      refine st_var rfl ?_
      rw [jn_give (M := []) rfl]
      exact nd_of rfl (s5.trans (s6.trans (s7.trans (same_new n7)))) (dj_nil _) ⟨rfl, lp, ys, _, _, _, _, _, rfl, upd_same, hys.mono (hm _) (same_new n7)⟩
  · rintro σ1 G4 M3 s4 dj4 ⟨rfl, fp, xs, x3, x4, x5, x6, x7, rfl, hfp, hxs⟩
    rw [List.length_map, List.length_range] at hxs
    generalize hws : moreN gs.length gs.length [[]] = ws at hxs
    have wsl : ws.length ≤ 3125 := by rw [← hws]; exact moreN_small hl hl
    have wsm : ∀ p ∈ ws, PermOf gs.length p := fun p hp => by
      rw [← hws, moreN_perms] at hp
      exact mem_perms0.mp hp
    refine s_setM (K := K) (evm_lst ea_nil) dj4 fun tp ys0 G6 s6 htp dj6 hy0 => ?_
    cases hy0
    have hfp := s6 _ _ hfp
    have hxs := hxs.mono (hm _) s6
    refine s_forG (K := K) (p := fp) (xs := xs) rfl hfp (fun a σ1 G1 M1 => ∃ (ys : List V) (x5 x6 x7 x9 x10 : Option V), σ1 = [some v0, some (.int ((gs.length : Nat) : Int)), some (.ref fp), x3, x4, x5, x6, x7, some (.ref tp), x9, x10] ∧ M1 = [(tp, ys)] ∧ RL (RunV K fun p => tD (outc gs p)) G1 ys (ws.take a)) dj6 ⟨[], x5, x6, x7, none, none, rfl, rfl, RL.nil⟩ ?_ ?_
    · rintro a σ1 G7 M3 y hy s7 dj7 ⟨ys, x5, x6, x7, x9, x10, rfl, rfl, hys⟩
      have ha : a < ws.length := by
        rw [← hxs.1]
        exact (List.getElem?_eq_some_iff.mp hy).1
      have hwa : ws[a]? = some ws[a] := List.getElem?_eq_getElem ha
      have hmem : ws[a] ∈ ws := List.getElem_mem ha
      generalize ws[a] = p at hwa hmem
      have hp := wsm p hmem
      have pl := hp.length
      have tl : (taken gs p).length = p.length := by
        have := goes_length gs p []
        rw [List.length_nil, Nat.zero_add] at this
        exact this
      obtain ⟨ad, w1, w2, rfl, sq, hw1, hw2⟩ := (hxs.2 a y p hy hwa).mono (s := s7)
      refine g_twoR dj7 sq ?_
      refine s_setM (K := K) (ds := List.replicate gs.length (oD none)) (evm_rep (evm_lst (ea_one ev_non)) (fun r zs G8 s8 => ev_var rfl (.int _)) (by omega)) dj7 fun sp zs G8 s8 hsp dj8 hz => ?_
      have hst : sp ≠ tp := lk_ne hsp
      have ez : zs = (lay (List.replicate gs.length none) []).map oV := by
        rw [← List.map_replicate] at hz
        exact dpall_oD hz
      subst ez
      have hw1 := hw1.mono s8
      have hw2 := hw2.mono s8
      have hys := hys.mono (hm _) s8
      have hI3 := ei_zipT (K := K) (M := (sp, (lay (List.replicate gs.length none) []).map oV) :: [(tp, ys)]) (ta := tVar 5) (tb := tVar 6) (ds := p.map nD) (es := (taken gs p).map oD) (σ := [some v0, some (.int ((gs.length : Nat) : Int)), some (.ref fp), x3, x4, some w1, some w2, x7, some (.ref tp), some (.ref sp), x10]) (G := G8) (ev_var rfl hw1.1) (ev_var rfl hw2)
      refine s_for hI3 (fun j σ2 G1 M1 => ∃ (x7 x10 : Option V), σ2 = [some v0, some (.int ((gs.length : Nat) : Int)), some (.ref fp), x3, x4, some w1, some w2, x7, some (.ref tp), some (.ref sp), x10] ∧ M1 = (sp, (lay (List.replicate gs.length none) ((p.zip (taken gs p)).take j)).map oV) :: [(tp, ys)]) dj8 (fun _ _ _ => ⟨_, _, rfl, rfl⟩) (fun _ _ _ _ _ _ h => h) ?_ ?_
      · rintro G9 s9 j d σ1 G10 M3 z hd s10 dj10 ⟨x7, x10, rfl, rfl⟩ hz
        obtain ⟨d1, d2, e1, e2, rfl⟩ := zipD_at hd
        rw [List.getElem?_map] at e1 e2
        cases q1 : p[j]? with
        | none => rw [q1] at e1; cases e1
        | some k =>
        cases q2 : (taken gs p)[j]? with
        | none => rw [q2] at e2; cases e2
        | some o =>
        rw [q1] at e1
        rw [q2] at e2
        cases e1
        cases e2
        have hk : k < gs.length := (hp.2 k).mp (List.mem_of_getElem? q1)
        refine g_two dj10 hz fun v7 v10 h7 h10 => ?_
        cases h7
        have ll : (lay (List.replicate gs.length none) ((p.zip (taken gs p)).take j)).length = gs.length := by rw [lay_length, List.length_replicate]
        refine st_setL (K := K) (z := ((k : Nat) : Int)) (j := k) rfl (ev_var rfl h10) (fun G11 s11 => ev_var rfl (.int _)) ?_ dj10 fun v11 G11 s11 dj11 h11 => ?_
        · unfold ixN
          rw [List.length_map, ll, if_pos (by omega), if_pos (by omega)]
          rfl
        · have ev := dp_oD h11
          subst ev
          have ep : (p.zip (taken gs p))[j]? = some (k, o) := List.getElem?_zip_eq_some.mpr ⟨q1, q2⟩
          have es : ((lay (List.replicate gs.length none) ((p.zip (taken gs p)).take j)).map oV).set k (oV o) = (lay (List.replicate gs.length none) ((p.zip (taken gs p)).take (j + 1))).map oV := by
            rw [take_more ep, lay_append, ← List.map_set]
            rfl
          rw [es] at dj11 ⊢
          exact nd_of rfl (s10.trans s11) dj11 ⟨_, _, rfl, rfl⟩
      · rintro σ1 G9 M3 s9 dj9 ⟨x7, x10, rfl, rfl⟩
        have eo : lay (List.replicate gs.length none) ((p.zip (taken gs p)).take (zipD (p.map nD) ((taken gs p).map oD)).length) = outc gs p := by
          unfold outc
          rw [List.take_of_length_le]
          rw [zipD_len, List.length_map, List.length_map, List.length_zip]
          exact Nat.le_refl _
        rw [eo] at dj9 ⊢
        have hw1 := hw1.mono s9
        have hys := hys.mono (hm _) s9
        show tDrop _ _ _ (jn G9 ((sp, (outc gs p).map oV) :: [(tp, ys)]))
        rw [jn_swap hst]
        refine st_appendR (K := K) (p := tp) rfl (evr_pair (K := K) (P1 := fun v G => WkV K G v p) (P2 := fun v G => Dp K G v (tD (outc gs p))) (evr_of rfl (fun G10 s10 => hw1.mono s10)) (fun _ _ _ s h => h.mono s) (Ev.toR (ev_tupOf (ds := (outc gs p).map oD) (EvL.toS (evl_var rfl (lk_there (lk_here (a := sp) (xs := (outc gs p).map oV)) (by rw [lk_cons, if_neg (Ne.symm hst)]; rfl)) (dpall_get (by rw [List.length_map, List.length_map]) (fun i x d hx hd => by
            rw [List.getElem?_map] at hx hd
            cases q : (outc gs p)[i]? with
            | none => rw [q] at hx; cases hx
            | some o =>
              rw [q] at hx hd
              cases hx
              cases hd
              exact oD_dp o)))))) (fun _ _ _ s h => h.mono s)) ?_ (dj_swap hst dj9) fun v G10 s10 dj10 hv => ?_
        · rw [hys.1, List.length_take]
          omega
        · rw [jn_swap (Ne.symm hst)]
          have dj11 := dj_swap (Ne.symm hst) dj10
          have l1 : ([(tp, ys ++ [v])] : Mh).lookup sp = none := by
            rw [lk_cons, if_neg hst]
            rfl
          have n10 := dj_here dj11
          rw [jn_give l1]
          refine nd_of rfl (s7.trans (s8.trans (s9.trans (s10.trans (same_new n10))))) (dj_give dj11 l1) ⟨_, _, _, _, _, _, rfl, rfl, ?_⟩
          rw [take_more hwa]
          exact (hys.mono (hm _) (s10.trans (same_new n10))).app (RunV.mono _ _ _ _ (same_new n10) hv)
    · rintro σ1 G7 M3 s7 dj7 ⟨ys, x5, x6, x7, x9, x10, rfl, rfl, hys⟩
      rw [hxs.1, List.take_length, ← hws, moreN_perms] at hys
      refine ⟨.ref tp, rfl, ?_⟩
      have n7 := dj_here dj7
      rw [jn_give (M := []) rfl]
      exact q _ tp ys (s03.trans (s4.trans (s6.trans (s7.trans (same_new n7))))) upd_same (hys.mono (hm _) (same_new n7))
end
end Lw
/-! text L5 -/
set_option Elab.async false
set_option linter.all false
set_option maxRecDepth 100000
set_option maxHeartbeats 4000000
namespace Lw
open PySem PySem.Spec PyProof.Rows L2
section
variable {P : Program} {w : World} {K : PySem.W.Frag} {mg : Str → Option Value} {base : Heap}
theorem evr_ix0 {M : Mh} {σ : L2.St} {G : Hp} {i : Nat} {a : Addr} {v1 : V} {rest : List V} {Pp : V → Hp → Prop} (h : σ[i]? = some (some (.ref a))) (hq : SqT K G a (v1 :: rest)) (hp : ∀ G2, Same G G2 → Pp v1 G2) : EvR M (tOp (rIxT K) (tVar i) (tC (.int 0))) σ G Pp := fun G1 s dj Q q =>
  ⟨.ref a, h, a, v1 :: rest, 0, v1, rfl, rfl, sq_jnT dj (seqT s hq), atI_head _ _, q v1 G1 (Same.refl _) dj (hp G1 s)⟩
theorem RunV.dp {f : List Nat → PyData} {G : Hp} {x : V} {p : List Nat} (h : RunV K f G x p) : Dp K G x (.tuple [rD p, f p]) := by
  obtain ⟨a, v1, v2, rfl, h1, h2, h3⟩ := h
  exact .tup h1 (.cons h2.1 (.cons h3 .nil))
theorem RL.dpall {α : Type} {R : Hp → V → α → Prop} {G : Hp} {f : α → PyData} (hf : ∀ x a, R G x a → Dp K G x (f a)) {xs : List V} {l : List α} (h : RL R G xs l) : DpAll K G xs (l.map f) := dpall_get (by rw [h.1, List.length_map]) fun i x d hx hd => by
  rw [List.getElem?_map] at hd
  cases e : l[i]? with
  | none => rw [e] at hd; cases hd
  | some a =>
    rw [e] at hd
    cases hd
    exact hf x a (h.2 i x a hx e)
/-! ### _law_had(tin, net) -/
def HadV (K : PySem.W.Frag) (gs : Gs) (v : V) (G : Hp) : Prop := ∃ (a : Addr) (v1 : V) (q : Addr) (ys : List V) (p0 : List Nat), v = .ref a ∧ SqT K G a [v1, .ref q] ∧ PermOf gs.length p0 ∧ Dp K G v1 (tD (outc gs p0)) ∧ G q = some (.lst ys) ∧ RL (WkV K) G ys (W gs (outc gs p0))
def W_had (K : PySem.W.Frag) : List PyData → Nat → (V → Hp → Prop) → Prop := fun ds c Pp => ∃ (n : Nat) (gs : Gs), ds = [webD n gs] ∧ gs.length ≤ 5 ∧ c = 1 ∧ Pp = HadV K gs
theorem sc__law_had : FnScope ["_law_tin", "_law_net_here", "_law_runs_so", "_law_seats", "_law_own"] ["_law_tin", "_law_net_here"] (defScope s__law_had) := ⟨rfl, rfl, rfl, by decide +kernel, rfl, by decide +kernel, by decide +kernel⟩
theorem wkm (x : V) (a : List Nat) (G1 G2 : Hp) (s : Same G1 G2) (h : WkV K G1 x a) : WkV K G2 x a := h.mono s
theorem perms_ne (m : Nat) : perms m [] m ≠ [] := fun e => by
  have : List.range m ∈ perms m [] m := mem_perms0.mpr ⟨List.nodup_range, fun k => List.mem_range⟩
  rw [e] at this
  cases this
theorem c_law_had (D : Dn K mg "_law_had" s__law_had ["_law_tin", "_law_net_here"]) (k__law_all_runs : Cal P w K mg base 2 "_law_all_runs" (spRuns K)) (k__law_of : Cal P w K mg base 2 "_law_of" (spW K (W_of K))) : Cal P w K mg base 3 "_law_had" (spW K (W_had K)) := by
  refine D.prW sc__law_had (fun ds c Pp h => by obtain ⟨_, _, rfl, _⟩ := h; rfl) (fun f cdv A outer s H E t vs ds c Pp hr hR => ?_)
  obtain ⟨n, gs, rfl, hl, rfl, rfl⟩ := hR
  refine ⟨_, pss_cons (ps_set (i := 2) sc__law_had.nd rfl (Or.inl rfl) (pe_ca k__law_all_runs hr (by decide) rfl (pa_cons (pv 1) pa_nil)))
    (pss_cons (ps_set (i := 3) sc__law_had.nd rfl (Or.inr rfl) (xT K (pe_ca k__law_of hr (by decide) rfl (pa_cons (pv 0) (pa_cons (pv 2) pa_nil))) pe_int))
    (pss_one (ps_ret (pe_tup (pa_cons (pv 3) (pa_cons (lcF 4 sc__law_had.nd (wi_list K (pv 2)) (fun _ _ _ _ _ => pt_eqD K (hu64 hr) (xT K (pv 4) pe_int) (pv 3)) (fun _ _ _ _ _ => xT K (pv 4) pe_int)) pa_nil)))))), fun G ns kk Q h0 tin hk hv q => ?_⟩
  obtain ⟨v1, rfl, h1⟩ := dp1 hv
  refine ⟨v1, rfl, G, [(t, ns)], rfl, dj_one h0, v1, n, gs, rfl, h1, hl, fun G2 rq ys s2 hq hys dj2 => un_nx ?_⟩
  have plen : (perms gs.length [] gs.length).length ≤ 3125 := by
    rw [← moreN_perms]
    exact moreN_small hl hl
  have hdp : Dp K G2 (.ref rq) (.list ((perms gs.length [] gs.length).map fun p => .tuple [rD p, tD (outc gs p)])) := .lst (.of hq) (hys.dpall fun x p h => h.dp)
  refine evw_call (K := K) (M := []) (σ := [some (.ref t), some v1, some (.ref rq), none, none]) (t := t) (i := 0) (k := kk) (c := 1) (ds := [.list ((perms gs.length [] gs.length).map fun p => .tuple [rD p, tD (outc gs p)])]) (R := W_of K) rfl (fun ns => ea_one (ev_var rfl hdp)) ⟨_, rfl, fun e => perms_ne _ (List.map_eq_nil_iff.mp e), by rw [List.length_map]; omega, rfl, rfl⟩ rfl (by omega) G2 ns (Same.refl _) tin dj2 _ fun v G3 ns3 s3 tin3 dj3 hp => ?_
  obtain ⟨i, d, hd, hvd⟩ := hp
  rw [List.getElem?_map] at hd
  cases ep : (perms gs.length [] gs.length)[i]? with
  | none => rw [ep] at hd; cases hd
  | some p0 =>
  rw [ep] at hd
  cases hd
  have hp0 : PermOf gs.length p0 := mem_perms0.mp (List.mem_of_getElem? ep)
  obtain ⟨a, xs, rfl, k1, k2⟩ := dp_tup hvd
  obtain ⟨w0, w1, rfl, k3, k4⟩ := dp2 k2
  refine ⟨a, [w0, w1], 1, w1, rfl, rfl, sq_jnT dj3 k1, rfl, un_nx ?_⟩
  have hq := s3 _ _ hq
  have hys := hys.mono (fun x p G1 G2 s h => RunV.mono x p G1 G2 s h) s3
  refine ⟨w1, rfl, ?_⟩
  have ht : G3 t = none := (dj_split (M := []) rfl dj3).2
  refine ev_lcG (K := K) (M := [(t, ns3)]) (σ := [some (.ref t), some v1, some (.ref rq), some w1, none]) (G := G3) (i := 2) (j := 4) (p := rq) (R := RunV K fun p => tD (outc gs p)) (R2 := WkV K) wkm id (fun p => decide (outc gs p = outc gs p0)) rfl hq hys (by omega) (fun m p x hx hp hR Da acc hDa G4 s4 dj4 => ⟨rfl, ?_, fun _ => ?_⟩) G3 (Same.refl _) dj3 _ fun lq zs G4 s4 hlq dj4 hzs => ?_
  · have hsl : SeqAt.shaped (tD (outc gs p)) = true := sh_t (by rw [outc_length]; omega)
    have hsl2 : SeqAt.shaped (tD (outc gs p0)) = true := sh_t (by rw [outc_length]; omega)
    have := eb_test (ev_eqD (K := K) (M := (Da, acc) :: [(t, ns3)]) (σ := ((wipe [some (.ref t), some v1, some (.ref rq), some w1, none] [4]).set 4 (some x))) (ta := tOp (rIxT K) (tVar 4) (tC (.int 1))) (tb := tVar 3) (G := G4) (d := tD (outc gs p)) (e := tD (outc gs p0)) (Ev.toJ (ev_ixT (ev_var rfl (hR.dp.mono s4)) ev_int rfl)) (Ev.toJ (ev_var rfl (k4.mono s4))) hsl hsl2)
    rw [eqv_tD] at this
    exact this
  · obtain ⟨ad, u1, u2, rfl, m1, m2, m3⟩ := hR
    exact evr_ix0 rfl (seqT s4 m1) (fun G5 s5 => m2.mono (s4.trans s5))
  · have hlt : lq ≠ t := lk_ne hlq
    have l1 : ([(t, ns3)] : Mh).lookup lq = none := hlq
    refine ⟨by show 2 ≤ sizeLine; decide, fun r hr => ?_⟩
    have n4 := dj_here dj4
    rw [jn_give l1] at hr ⊢
    have dj5 := dj_give (o := .lst zs) dj4 l1
    have n5 := jn_none hr
    rw [jn_new hr]
    have sA := s2.trans (s3.trans (s4.trans ((same_new (o := .lst zs) n4).trans (same_new (o := .tup [w1, .ref lq]) n5.2))))
    have sB := s4.trans ((same_new (o := .lst zs) n4).trans (same_new (o := .tup [w1, .ref lq]) n5.2))
    have hzs' : RL (WkV K) (upd (upd G4 lq (.lst zs)) r (.tup [w1, .ref lq])) zs (W gs (outc gs p0)) := by
      have := hzs.mono wkm ((same_new (o := .lst zs) n4).trans (same_new (o := .tup [w1, .ref lq]) n5.2))
      rw [List.map_id] at this
      exact this
    exact q _ _ ns3 sA (dj_split (M := []) rfl (dj_new dj5 hr)).2 tin3 ⟨r, w1, lq, zs, p0, rfl, .of upd_same, hp0, k4.mono sB, (same_new n5.2) _ _ upd_same, hzs'⟩
/-! ### _law_lists(matter) -/
def R_lists (n : Nat) : List PyData → PyData → Prop := fun ds d => ∃ x, ds = [x] ∧ Lv n x ∧ d = lstN n x
theorem sc__law_lists : FnScope ["_law_matter", "_law_bit"] ["_law_matter"] (defScope s__law_lists) := ⟨rfl, rfl, rfl, by decide +kernel, rfl, by decide +kernel, by decide +kernel⟩
theorem lstN_leaf {n : Nat} {x : PyData} (h : leafB x = true) : lstN n x = x := by
  cases n with
  | zero => rfl
  | succ n => cases x <;> first | rfl | cases h
theorem c_law_lists (T : Tx mg) (D : Dn K mg "_law_lists" s__law_lists ["_law_matter"]) : ∀ n, Cal P w K mg base (n + 1) "_law_lists" (Pr K (R_lists n)) := by
  intro n
  induction n with
  | zero =>
    refine D.pr sc__law_lists (fun ds d h => by obtain ⟨x, rfl, _⟩ := h; rfl) (fun f cdv A outer s H E vs ds d hr h hv => ?_)
    obtain ⟨x, rfl, hx, rfl⟩ := h
    obtain ⟨v0, rfl, h0⟩ := dp1 hv
    refine ⟨_, pss_one (ps_ret (pe_ifExp (pt_val (pe_isi2 K T (pv 0) (pe_tup (pa_cons (ty_list T) (pa_cons (ty_tuple T) pa_nil))))) pe_no (pv 0))), fun Q q => ?_⟩
    obtain ⟨k1, k2⟩ := leaf_kit hx
    exact fin q (Same.refl _) (ev_ifF (eb_B (ev_isi2 (ev_var rfl h0).toJ k1 k2 rfl)) (ev_var rfl h0))
  | succ n ih =>
    refine D.pr sc__law_lists (fun ds d h => by obtain ⟨x, rfl, _⟩ := h; rfl) (fun f cdv A outer s H E vs ds d hr h hv => ?_)
    obtain ⟨x, rfl, hx, rfl⟩ := h
    obtain ⟨v0, rfl, h0⟩ := dp1 hv
    by_cases isT : ∃ xs, x = .tuple xs
    · obtain ⟨xs, rfl⟩ := isT
      obtain ⟨hl, hx⟩ : xs.length ≤ 1000 ∧ ∀ y ∈ xs, Lv n y := by
        rcases hx with h | ⟨ys, h1, h2, h3⟩
        · cases h
        · rcases h1 with h1 | h1 <;> cases h1
          exact ⟨h2, h3⟩
      refine ⟨_, pss_one (ps_ret (pe_ifExp (pt_val (pe_isi2 K T (pv 0) (pe_tup (pa_cons (ty_list T) (pa_cons (ty_tuple T) pa_nil)))))
        (lcA 1 sc__law_lists.nd (wi_tup K (pv 0)) (fun _ _ _ _ _ => pe_ca ih hr (Nat.le_refl _) rfl (pa_cons (pv 1) pa_nil))) (pv 0))), fun Q q => ?_⟩
      refine fin q (Same.refl _) (ev_ifT (eb_B (ev_isi2 (ev_var rfl h0).toJ kit_tuple_list kit_tuple_tuple rfl)) (evm_lcA xs id (lstN n) ?_ (by omega) fun a ha D acc hD G1 x1 s dj hx1 => ⟨rfl, ev_call (ea_one (ev_var rfl hx1)) ⟨a, rfl, hx a ha, rfl⟩⟩).toE)
      rw [List.map_id]
      exact ei_tup (ev_var rfl h0)
    · by_cases isL : ∃ xs, x = .list xs
      · obtain ⟨xs, rfl⟩ := isL
        obtain ⟨hl, hx⟩ : xs.length ≤ 1000 ∧ ∀ y ∈ xs, Lv n y := by
          rcases hx with h | ⟨ys, h1, h2, h3⟩
          · cases h
          · rcases h1 with h1 | h1 <;> cases h1
            exact ⟨h2, h3⟩
        refine ⟨_, pss_one (ps_ret (pe_ifExp (pt_val (pe_isi2 K T (pv 0) (pe_tup (pa_cons (ty_list T) (pa_cons (ty_tuple T) pa_nil)))))
          (lcA 1 sc__law_lists.nd (wi_list K (pv 0)) (fun _ _ _ _ _ => pe_ca ih hr (Nat.le_refl _) rfl (pa_cons (pv 1) pa_nil))) (pv 0))), fun Q q => ?_⟩
        refine fin q (Same.refl _) (ev_ifT (eb_B (ev_isi2 (ev_var rfl h0).toJ kit_list_list kit_list_tuple rfl)) (evm_lcA xs id (lstN n) ?_ (by omega) fun a ha D acc hD G1 x1 s dj hx1 => ⟨rfl, ev_call (ea_one (ev_var rfl hx1)) ⟨a, rfl, hx a ha, rfl⟩⟩).toE)
        rw [List.map_id]
        exact ei_list (ev_var rfl h0)
      · have lf : leafB x = true := by
          rcases hx with h | ⟨ys, h1, _⟩
          · exact h
          · rcases h1 with h1 | h1
            · exact absurd ⟨ys, h1⟩ isL
            · exact absurd ⟨ys, h1⟩ isT
        refine ⟨_, pss_one (ps_ret (pe_ifExp (pt_val (pe_isi2 K T (pv 0) (pe_tup (pa_cons (ty_list T) (pa_cons (ty_tuple T) pa_nil))))) pe_no (pv 0))), fun Q q => ?_⟩
        obtain ⟨k1, k2⟩ := leaf_kit lf
        rw [lstN_leaf lf] at q
        exact fin q (Same.refl _) (ev_ifF (eb_B (ev_isi2 (ev_var rfl h0).toJ k1 k2 rfl)) (ev_var rfl h0))
end
end Lw
/-! text L6 -/
set_option Elab.async false
set_option linter.all false
set_option maxRecDepth 100000
set_option maxHeartbeats 4000000
namespace Lw
open PySem PySem.Spec PyProof.Rows L2
section
variable {P : Program} {w : World} {K : PySem.W.Frag} {mg : Str → Option Value} {base : Heap}
theorem eqv_leaf {x : PyData} (h : leafB x = true) : PyData.eqv x x = true := by
  cases x with
  | none => rw [PyData.eqv]
  | bool b => rw [PyData.eqv]; simp
  | int i => rw [PyData.eqv]; simp
  | str s => rw [PyData.eqv]; simp
  | _ => cases h
/-! ### _law_same(got, due) -/
def R_same (n : Nat) : List PyData → PyData → Prop := fun ds d => ∃ x, ds = [x, x] ∧ Lv n x ∧ d = .bool true
theorem sc__law_same : FnScope ["_law_got", "_law_due", "_law_mine", "_law_its"] ["_law_got", "_law_due"] (defScope s__law_same) := ⟨rfl, rfl, rfl, by decide +kernel, rfl, by decide +kernel, by decide +kernel⟩
theorem zipD_self (xs : List PyData) : zipD xs xs = xs.map fun x => .tuple [x, x] := by
  unfold zipD
  induction xs with
  | nil => rfl
  | cons x xs ih => rw [List.zip_cons_cons, List.map_cons, List.map_cons, ih]
/-- what a leaf answers -/
theorem same_leaf {x : PyData} {v0 v1 : V} {H : Hp} {Q : VK} {X1 X2 : TE} (lf : leafB x = true) (h0 : Dp K H v0 x) (h1 : Dp K H v1 x) (q : ∀ v H', Same H H' → Dp K H' v (.bool true) → Q v H') (cont : TS) :
    tSeq (tIfS (tB (tCB (rIsiT K) (tCons (tVar 1) (tCons (tTup (tCons (tC (.ty "list")) (tCons (tC (.ty "tuple")) tNil))) tNil)))) cont tNext)
      (tSeq (tIfS (tOr (tTest (tOp rIsN (tVar 1) (tC .non))) (tB (tCB (rIsiT K) (tCons (tVar 1) (tCons (tTup (tCons (tC (.ty "bool")) (tCons (tC (.ty "str")) tNil))) tNil)))))
        (tRet (tAndV (tOp (rEqD K) (tVar 0) (tVar 1)) (tAndV (tOp rEq (tCB (rIsi K) (tCons (tVar 0) (tCons (tC (.ty "bool")) tNil))) (tCB (rIsi K) (tCons (tVar 1) (tCons (tC (.ty "bool")) tNil)))) (tOp rEq (tOp rIsN (tVar 0) (tC .non)) (tOp rIsN (tVar 1) (tC .non)))))) tNext)
      (tRet (tAndV (tCB (rIsi K) (tCons (tVar 0) (tCons (tC (.ty "int")) tNil))) (tAndV (tNotV (tCB (rIsi K) (tCons (tVar 0) (tCons (tC (.ty "bool")) tNil)))) (tOp (rEqD K) (tVar 0) (tVar 1))))))
      { nx := fun _ H' => Q .non H', rt := Q } [some v0, some v1, none, none] (jn H []) := by
  have hs : SeqAt.shaped x = true := Lv.shaped (n := 0) lf
  have he := eqv_leaf lf
  obtain ⟨k1, k2⟩ := leaf_kit lf
  have eqD : ∀ {G2 : Hp}, Same H G2 → Ev K [] (tOp (rEqD K) (tVar 0) (tVar 1)) [some v0, some v1, none, none] G2 (.bool true) := fun s => by
    have := ev_eqD (K := K) (M := []) (σ := [some v0, some v1, none, none]) (ta := tVar 0) (tb := tVar 1) (Ev.toJ (ev_var rfl (h0.mono s))) (Ev.toJ (ev_var rfl (h1.mono s))) hs hs
    rw [he] at this
    exact this
  have early : ∀ {G2 : Hp} {b : Bool}, Same H G2 → kitB (tyD x) "bool" = some b → Ev K [] (tAndV (tOp (rEqD K) (tVar 0) (tVar 1)) (tAndV (tOp rEq (tCB (rIsi K) (tCons (tVar 0) (tCons (tC (.ty "bool")) tNil))) (tCB (rIsi K) (tCons (tVar 1) (tCons (tC (.ty "bool")) tNil)))) (tOp rEq (tOp rIsN (tVar 0) (tC .non)) (tOp rIsN (tVar 1) (tC .non))))) [some v0, some v1, none, none] G2 (.bool true) := fun {G2 b} s kb => by
    have e : PyData.bool true = .bool (true && ((b == b) && (isNon x == isNon x))) := by simp
    rw [e]
    exact ev_and (eqD s) fun _ => ev_and (ev_eqB (ev_isi (ev_var rfl (h0.mono s)).toJ kb) (ev_isi (ev_var rfl (h1.mono s)).toJ kb)) fun _ => ev_eqB (ev_isN (ev_var rfl (h0.mono s))) (ev_isN (ev_var rfl (h1.mono s)))
  refine s_ifN (eb_B (ev_isi2 (ev_var rfl h1).toJ k1 k2 rfl)) (dj_nil _) (fun b => nomatch b) fun _ G2 s2 dj2 => ?_
  have h0' := h0.mono s2
  have h1' := h1.mono s2
  cases x with
  | none => exact s_ifN (eb_or (c := true) (eb_test (ev_isN (ev_var rfl h1'))) (fun z => nomatch z)) dj2 (fun _ G3 s3 dj3 => fin q (s2.trans s3) (early (s2.trans s3) kit_NoneType_bool)) (fun b => nomatch b)
  | bool y => exact s_ifN (eb_or (c := true) (eb_test (ev_isN (ev_var rfl h1'))) (fun _ => eb_B (ev_isi2 (ev_var rfl h1').toJ kit_bool_bool kit_bool_str rfl))) dj2 (fun _ G3 s3 dj3 => fin q (s2.trans s3) (early (s2.trans s3) kit_bool_bool)) (fun b => nomatch b)
  | str y => exact s_ifN (eb_or (c := true) (eb_test (ev_isN (ev_var rfl h1'))) (fun _ => eb_B (ev_isi2 (ev_var rfl h1').toJ kit_str_bool kit_str_str rfl))) dj2 (fun _ G3 s3 dj3 => fin q (s2.trans s3) (early (s2.trans s3) kit_str_bool)) (fun b => nomatch b)
  | int y => exact s_ifN (eb_or (c := false) (eb_test (ev_isN (ev_var rfl h1'))) (fun _ => eb_B (ev_isi2 (ev_var rfl h1').toJ kit_int_bool kit_int_str rfl))) dj2 (fun b => nomatch b) (fun _ G3 s3 dj3 => fin q (s2.trans s3) (ev_and (b := true) (c := true) (ev_isi (ev_var rfl (h0'.mono s3)).toJ kit_int_int) fun _ => ev_and (b := true) (c := true) (ev_not (ev_isi (ev_var rfl (h0'.mono s3)).toJ kit_int_bool)) fun _ => eqD (s2.trans s3)))
  | _ => cases lf
theorem c_law_same (T : Tx mg) (D : Dn K mg "_law_same" s__law_same ["_law_got", "_law_due"]) : ∀ n, Cal P w K mg base (n + 1) "_law_same" (Pr K (R_same n)) := by
  intro n
  induction n with
  | zero =>
    refine D.pr sc__law_same (fun ds d h => by obtain ⟨x, rfl, _⟩ := h; rfl) (fun f cdv A outer s H E vs ds d hr h hv => ?_)
    obtain ⟨x, rfl, hx, rfl⟩ := h
    obtain ⟨v0, v1, rfl, h0, h1⟩ := dp2 hv
    refine ⟨_, (pss_cons (ps_if (pt_val (pe_isi2 K T (pv 1) (pe_tup (pa_cons (ty_list T) (pa_cons (ty_tuple T) pa_nil)))))
      (pss_cons (ps_if (PW.pt (pw_or (pt_cmpR op_ne (pe_isi K T (pv 0) (ty_list T)) (pe_isi K T (pv 1) (ty_list T)) (nomark _)) (pw_or1 (pt_cmpR op_ne (pe_isi K T (pv 0) (ty_tuple T)) (pe_isi K T (pv 1) (ty_tuple T)) (nomark _)))))
        (pss_one (ps_ret pe_bl))
        pss_nil)
      (pss_one (ps_ret (pe_and (pe_cmpR op_eq (pe_len K T (pv 0)) (pe_len K T (pv 1)) (nomark _)) (pe_one pe_no)))))
      pss_nil)
    (pss_cons (ps_if (PW.pt (pw_or (pt_cmpR op_isN (pv 1) pe_non (nomark _)) (pw_or1 (pt_val (pe_isi2 K T (pv 1) (pe_tup (pa_cons (ty_bool T) (pa_cons (ty_str T) pa_nil))))))))
      (pss_one (ps_ret (pe_and (pe_eqD K (hu64 hr) (pv 0) (pv 1)) (pe_and (pe_cmpR op_eq (pe_isi K T (pv 0) (ty_bool T)) (pe_isi K T (pv 1) (ty_bool T)) (nomark _)) (pe_one (pe_cmpR op_eq (pe_cmpR op_isN (pv 0) pe_non (nomark _)) (pe_cmpR op_isN (pv 1) pe_non (nomark _)) (nomark _)))))))
      pss_nil)
    (pss_one (ps_ret (pe_and (pe_isi K T (pv 0) (ty_int T)) (pe_and (pe_not (pe_isi K T (pv 0) (ty_bool T))) (pe_one (pe_eqD K (hu64 hr) (pv 0) (pv 1))))))))), fun Q q => same_leaf (X1 := tNo) (X2 := tNo) hx h0 h1 q _⟩
  | succ n ih =>
    refine D.pr sc__law_same (fun ds d h => by obtain ⟨x, rfl, _⟩ := h; rfl) (fun f cdv A outer s H E vs ds d hr h hv => ?_)
    obtain ⟨x, rfl, hx, rfl⟩ := h
    obtain ⟨v0, v1, rfl, h0, h1⟩ := dp2 hv
    refine ⟨_, (pss_cons (ps_if (pt_val (pe_isi2 K T (pv 1) (pe_tup (pa_cons (ty_list T) (pa_cons (ty_tuple T) pa_nil)))))
      (pss_cons (ps_if (PW.pt (pw_or (pt_cmpR op_ne (pe_isi K T (pv 0) (ty_list T)) (pe_isi K T (pv 1) (ty_list T)) (nomark _)) (pw_or1 (pt_cmpR op_ne (pe_isi K T (pv 0) (ty_tuple T)) (pe_isi K T (pv 1) (ty_tuple T)) (nomark _)))))
        (pss_one (ps_ret pe_bl))
        pss_nil)
      (pss_one (ps_ret (pe_and (pe_cmpR op_eq (pe_len K T (pv 0)) (pe_len K T (pv 1)) (nomark _)) (pe_one (pe_all K T rfl (by have hN := sc__law_same.nd; exact lcA2 K 2 3 sc__law_same.nd (wi_zip K T (pv 0) (pv 1)) (fun _ _ _ _ _ => (pe_ca ih hr (Nat.le_refl _) rfl (pa_cons (pv 2) (pa_cons (pv 3) pa_nil)))))))))))
      pss_nil)
    (pss_cons (ps_if (PW.pt (pw_or (pt_cmpR op_isN (pv 1) pe_non (nomark _)) (pw_or1 (pt_val (pe_isi2 K T (pv 1) (pe_tup (pa_cons (ty_bool T) (pa_cons (ty_str T) pa_nil))))))))
      (pss_one (ps_ret (pe_and (pe_eqD K (hu64 hr) (pv 0) (pv 1)) (pe_and (pe_cmpR op_eq (pe_isi K T (pv 0) (ty_bool T)) (pe_isi K T (pv 1) (ty_bool T)) (nomark _)) (pe_one (pe_cmpR op_eq (pe_cmpR op_isN (pv 0) pe_non (nomark _)) (pe_cmpR op_isN (pv 1) pe_non (nomark _)) (nomark _)))))))
      pss_nil)
    (pss_one (ps_ret (pe_and (pe_isi K T (pv 0) (ty_int T)) (pe_and (pe_not (pe_isi K T (pv 0) (ty_bool T))) (pe_one (pe_eqD K (hu64 hr) (pv 0) (pv 1))))))))), fun Q q => ?_⟩
    have inner : ∀ (xs : List PyData) (hl : xs.length ≤ 1000) (hx : ∀ y ∈ xs, Lv n y) {G : Hp} {σ : L2.St} {ta tb : TE} (hI : EvI K [] (RZ.iZipA K (tCons ta (tCons tb tNil))) σ G (zipD xs xs) Any), wipe (((wipe σ [2, 3]).set 2 none).set 3 none) [2, 3] = wipe σ [2, 3] → (∀ a b, wipe (((wipe σ [2, 3]).set 2 (some a)).set 3 (some b)) [2, 3] = wipe σ [2, 3]) → (∀ a b : V, (((wipe σ [2, 3]).set 2 (some a)).set 3 (some b))[2]? = some (some a)) → (∀ a b : V, (((wipe σ [2, 3]).set 2 (some a)).set 3 (some b))[3]? = some (some b)) → Ev K [] (tCB (rAll K) (tCons (tLc (RZ.iZipA K (tCons ta (tCons tb tNil))) (gTup K 2 (gCons (gName 2) (gCons (gName 3) gNil))) tYes (tCall (fr_ (Pr K (R_same n))) [] E0 (tCons (tVar 2) (tCons (tVar 3) tNil))) [2, 3]) tNil)) σ G (.bool true) := fun xs hl hx {G σ ta tb} hI _ hw2 hv2 hv3 => by
      have e : (xs.map fun _ => true).all id = true := by simp
      rw [← e]
      refine ev_all (EvM.toE ?_).toS
      rw [zipD_self] at hI
      have := evm_lc (K := K) (te := tCall (fr_ (Pr K (R_same n))) [] E0 (tCons (tVar 2) (tCons (tVar 3) tNil))) (tt := tYes) (vs := [2, 3]) xs (fun x => .tuple [x, x]) (fun _ => true) (fun _ => .bool true) (mono_two 2 3) hI (fun _ _ _ => trivial) (by omega) fun a ha Da acc hDa G1 z s1 dj1 hz => g_two dj1 hz fun w1 w2 k1 k2 => ⟨G1, rfl, Same.refl _, dj1, hw2 w1 w2, eb_yes, fun _ => ev_call (ea_two (ev_var (hv2 w1 w2) k1) (ev_var (hv3 w1 w2) k2)) ⟨a, rfl, hx a ha, rfl⟩⟩
      rw [List.filter_eq_self.mpr (fun _ _ => rfl)] at this
      rw [List.map_map]
      exact this
    by_cases isT : ∃ xs, x = .tuple xs
    · obtain ⟨xs, rfl⟩ := isT
      obtain ⟨hl, hx⟩ : xs.length ≤ 1000 ∧ ∀ y ∈ xs, Lv n y := by
        rcases hx with h | ⟨ys, h1, h2, h3⟩
        · cases h
        · rcases h1 with h1 | h1 <;> cases h1
          exact ⟨h2, h3⟩
      refine s_ifT (eb_B (ev_isi2 (ev_var rfl h1).toJ kit_tuple_list kit_tuple_tuple rfl)) (dj_nil _) rfl fun G2 s2 dj2 => ?_
      have h0 := h0.mono s2
      have h1 := h1.mono s2
      refine s_ifF (eb_or (eb_test (ev_neB (ev_isi (ev_var rfl h0).toJ kit_tuple_list) (ev_isi (ev_var rfl h1).toJ kit_tuple_list))) fun _ => eb_test (ev_neB (ev_isi (ev_var rfl h0).toJ kit_tuple_tuple) (ev_isi (ev_var rfl h1).toJ kit_tuple_tuple))) dj2 rfl fun G3 s3 dj3 => ?_
      have h0 := h0.mono s3
      have h1 := h1.mono s3
      exact fin q (s2.trans s3) (ev_and (b := decide (((xs.length : Nat) : Int) = ((xs.length : Nat) : Int))) (c := true) (ev_eqI (ev_lenT (ev_var rfl h0)) (ev_lenT (ev_var rfl h1))) fun _ => inner xs hl hx (ei_zipT (ev_var rfl h0) (ev_var rfl h1)) rfl (fun _ _ => rfl) (fun _ _ => rfl) (fun _ _ => rfl)) (by simp)
    · by_cases isL : ∃ xs, x = .list xs
      · obtain ⟨xs, rfl⟩ := isL
        obtain ⟨hl, hx⟩ : xs.length ≤ 1000 ∧ ∀ y ∈ xs, Lv n y := by
          rcases hx with h | ⟨ys, h1, h2, h3⟩
          · cases h
          · rcases h1 with h1 | h1 <;> cases h1
            exact ⟨h2, h3⟩
        refine s_ifT (eb_B (ev_isi2 (ev_var rfl h1).toJ kit_list_list kit_list_tuple rfl)) (dj_nil _) rfl fun G2 s2 dj2 => ?_
        have h0 := h0.mono s2
        have h1 := h1.mono s2
        refine s_ifF (eb_or (eb_test (ev_neB (ev_isi (ev_var rfl h0).toJ kit_list_list) (ev_isi (ev_var rfl h1).toJ kit_list_list))) fun _ => eb_test (ev_neB (ev_isi (ev_var rfl h0).toJ kit_list_tuple) (ev_isi (ev_var rfl h1).toJ kit_list_tuple))) dj2 rfl fun G3 s3 dj3 => ?_
        have h0 := h0.mono s3
        have h1 := h1.mono s3
        exact fin q (s2.trans s3) (ev_and (b := decide (((xs.length : Nat) : Int) = ((xs.length : Nat) : Int))) (c := true) (ev_eqI (ev_lenL (Ev.toS (ev_var rfl h0))) (ev_lenL (Ev.toS (ev_var rfl h1)))) fun _ => inner xs hl hx (ei_zipL (ev_var rfl h0) (ev_var rfl h1)) rfl (fun _ _ => rfl) (fun _ _ => rfl) (fun _ _ => rfl)) (by simp)
      · have lf : leafB x = true := by
          rcases hx with h | ⟨ys, h1, _⟩
          · exact h
          · rcases h1 with h1 | h1
            · exact absurd ⟨ys, h1⟩ isL
            · exact absurd ⟨ys, h1⟩ isT
        exact same_leaf (X1 := tNo) (X2 := tNo) lf h0 h1 q _
/-! ### _law_step(walk, end) -/
def cnD : PyData := .list [.str "can not", .bool true]
def stD (p q : List Nat) : PyData := ((stepk q p).map fun k => rD (swp p k)).getD cnD
def spStep (K : PySem.W.Frag) : Sp := fun vs H Q _ => ∃ (v0 v1 : V) (m : Nat) (p q : List Nat), vs = [v0, v1] ∧ Dp K H v0 (rD p) ∧ WkV K H v1 q ∧ PermOf m p ∧ PermOf m q ∧ m ≤ 1000 ∧ ∀ v H', Same H H' → Dp K H' v (stD p q) → Q v H'
theorem sc__law_step : FnScope ["_law_walk_here", "_law_end_so", "_law_k"] ["_law_walk_here", "_law_end_so"] (defScope s__law_step) := ⟨rfl, rfl, rfl, by decide +kernel, rfl, by decide +kernel, by decide +kernel⟩
theorem c_law_step (T : Tx mg) (D : Dn K mg "_law_step" s__law_step ["_law_walk_here", "_law_end_so"]) : Cal P w K mg base 1 "_law_step" (spStep K) := by
  refine D.cal sc__law_step (fun vs H Q E h => by obtain ⟨_, _, _, _, _, rfl, _⟩ := h; rfl) (fun f cdv A outer s H vs Q E hr h => ?_)
  obtain ⟨v0, v1, m, p, pe, rfl, h6, ⟨h7, n7⟩, hp, hq, hm, q⟩ := h
  refine ⟨_, (pss_cons (ps_for PassesOwn.never rfl (pi_range1 (by rfl) T.range_ (pa_cons (pe_op op_sub (pe_len K T (pv 0)) pe_int) pa_nil)) (pg_name (i := 2) sc__law_step.nd rfl (Or.inl rfl))
      (pss_one (ps_if (pt_cmpR op_gt (pe_bmT PySem.F.slot_tuple_index PySem.F.type_tuple_index mt_idxT (pv 1) (pa_cons (xT K (pv 0) (pv 2)) pa_nil)) (pe_bmT PySem.F.slot_tuple_index PySem.F.type_tuple_index mt_idxT (pv 1) (pa_cons (xT K (pv 0) (pe_op op_add (pv 2) pe_int)) pa_nil)) (nomark _))
        (pss_one (ps_ret (pe_catT K (pe_catT K (pe_slT K (pv 0) po_none (po_some (pv 2))) (pe_tup (pa_cons (xT K (pv 0) (pe_op op_add (pv 2) pe_int)) (pa_cons (xT K (pv 0) (pv 2)) pa_nil)))) (pe_slT K (pv 0) (po_some (pe_op op_add (pv 2) pe_int)) po_none))))
        pss_nil)))
    (pss_one (ps_ret (pe_lst (pa_cons pe_str (pa_cons pe_bl pa_nil)))))), ?_⟩
  rw [← jn_nil H]
  have pl := hp.length
  have pl2 := hq.length
  have e1 : (((m : Nat) : Int) - 1).toNat = m - 1 := by omega
  have hI := ei_rngI (K := K) (M := []) (te := tOp (rI0 fun i j => V.int (i - j)) (tCB (rLenQ K) (tCons (tVar 0) tNil)) (tC (V.int 1))) (σ := [some v0, some v1, none]) (G := H) (z := ((m : Nat) : Int) - 1) (ev_I0 (ev_lenT (ev_var rfl h6)) ev_int (fun _ => by rw [List.length_map, pl]; exact .int _)) (by omega) (by omega)
  rw [e1] at hI
  refine s_for hI (fun j σ1 G1 M1 => M1 = [] ∧ (∃ x8, σ1 = [some v0, some v1, x8]) ∧ ∀ k, k < j → inv pe p k = false) (dj_nil _) (fun _ _ _ => ⟨rfl, ⟨none, rfl⟩, fun k hk => by omega⟩) (fun _ _ _ _ _ _ h => h) ?_ ?_
  · rintro G6 s6 j d σ1 G7 M3 x hd s7 dj7 ⟨rfl, ⟨x8, rfl⟩, hN⟩ hx
    have hj : j < m - 1 := by
      have := (List.getElem?_eq_some_iff.mp hd).1
      rw [List.length_map, List.length_range] at this
      exact this
    rw [List.getElem?_map, List.getElem?_range hj] at hd
    cases hd
    cases hx
    have h6 := h6.mono (s6.trans s7)
    have h7 := h7.mono (s6.trans s7)
    have n7 := (n7 (by omega)).mono (s6.trans s7)
    have j1 : j < p.length := by omega
    have j2 : j + 1 < p.length := by omega
    have mem : ∀ i, i < p.length → p.getD i 0 ∈ pe := fun i hi => by
      have := (hp.2 _).mp (List.mem_of_getElem? (getD_el hi))
      exact (hq.2 _).mpr this
    have ix : ∀ {G8 : Hp}, Same G7 G8 → Ev K [] (tOp (rIxT K) (tVar 0) (tVar 2)) [some v0, some v1, some (.int ((j : Nat) : Int))] G8 (nD (p.getD j 0)) := fun s8 => ev_ixT (ev_var rfl (h6.mono s8)) (ev_var rfl (.int _)) (atI_nat (map_at (getD_el j1)))
    have inc : ∀ {G8 : Hp}, Ev K [] (tOp (rI0 fun i j => V.int (i + j)) (tVar 2) (tC (.int 1))) [some v0, some v1, some (.int ((j : Nat) : Int))] G8 (nD (j + 1)) := fun {_} => ev_I0 (ev_var rfl (.int _)) ev_int (fun _ => by show Dp _ _ (.int (((j : Nat) : Int) + 1)) (.int ((j + 1 : Nat) : Int)); rw [show ((j + 1 : Nat) : Int) = ((j : Nat) : Int) + 1 by omega]; exact .int _)
    have ix2 : ∀ {G8 : Hp}, Same G7 G8 → Ev K [] (tOp (rIxT K) (tVar 0) (tOp (rI0 fun i j => V.int (i + j)) (tVar 2) (tC (.int 1)))) [some v0, some v1, some (.int ((j : Nat) : Int))] G8 (nD (p.getD (j + 1) 0)) := fun s8 => ev_ixT (ev_var rfl (h6.mono s8)) inc (atI_nat (map_at (getD_el j2)))
    refine st_if (b := inv pe p j) ?_ dj7 (fun b G8 s8 dj8 => ?_) (fun b G8 s8 dj8 => ?_)
    · have := eb_test (ev_I0 (K := K) (M := []) (z := .bool (decide (((pe.idxOf (p.getD (j + 1) 0) : Nat) : Int) < ((pe.idxOf (p.getD j 0) : Nat) : Int)))) (g := fun i j => V.bl (decide (j < i))) (ev_idxT (i := 1) rfl h7 n7 (ix (Same.refl _)) (mem j j1)) (ev_idxT (i := 1) rfl h7 n7 (ix2 (Same.refl _)) (mem (j + 1) j2)) (fun _ => .bl _))
      rw [show decide (((pe.idxOf (p.getD (j + 1) 0) : Nat) : Int) < ((pe.idxOf (p.getD j 0) : Nat) : Int)) = inv pe p j from decide_eq_decide.mpr (by omega)] at this
      exact this
    · have ek : stepk pe p = some j := by
        unfold stepk
        rw [pl]
        exact find_some hj hN b
      have h6 := h6.mono s8
      have sl1 := ev_slT (K := K) (M := []) (ta := tVar 0) (to := tNoPart) (th := tPart (tVar 2)) (σ := [some v0, some v1, some (.int ((j : Nat) : Int))]) (G := G8) (ev_var rfl h6) eo_none (eo_some (K := K) (ev_var rfl (.int _)))
      rw [cut_to (by rw [List.length_map]; omega), ← List.map_take] at sl1
      have inc2 : Ev K [] (tOp (rI0 fun i j => V.int (i + j)) (tVar 2) (tC (.int 2))) [some v0, some v1, some (.int ((j : Nat) : Int))] G8 (nD (j + 2)) := ev_I0 (ev_var rfl (.int _)) ev_int (fun _ => by show Dp _ _ (.int (((j : Nat) : Int) + 2)) (.int ((j + 2 : Nat) : Int)); rw [show ((j + 2 : Nat) : Int) = ((j : Nat) : Int) + 2 by omega]; exact .int _)
      have sl2 := ev_slT (K := K) (M := []) (ta := tVar 0) (to := tPart (tOp (rI0 fun i j => V.int (i + j)) (tVar 2) (tC (.int 2)))) (th := tNoPart) (σ := [some v0, some v1, some (.int ((j : Nat) : Int))]) (G := G8) (ev_var rfl h6) (eo_some (K := K) inc2) eo_none
      rw [cut_from (by rw [List.length_map]; omega), ← List.map_drop] at sl2
      have tl1 : (p.take j).length = j := by rw [List.length_take]; omega
      have dl1 : (p.drop (j + 2)).length ≤ 1000 := by rw [List.length_drop]; omega
      refine fin q (s6.trans (s7.trans s8)) (ev_catT (ev_catT sl1 (ev_tup (ea_two (ix2 s8) (ix s8)) (by show 2 ≤ 100000; decide)) (by rw [List.length_map, tl1]; show j + 2 ≤ _; omega)) sl2 (by rw [List.length_append, List.length_map, List.length_map, tl1]; show j + 2 + _ ≤ _; omega)) ?_
      unfold stD
      rw [ek]
      show _ = PyData.tuple ((p.take j ++ [p.getD (j + 1) 0, p.getD j 0] ++ p.drop (j + 2)).map nD)
      rw [List.map_append, List.map_append]
      rfl
    · refine nt_of rfl (s7.trans s8) dj8 ⟨rfl, ⟨_, rfl⟩, fun k hk => ?_⟩
      rcases Nat.lt_succ_iff_lt_or_eq.mp hk with hk | hk
      · exact hN k hk
      · rw [hk]
        exact b
  · rintro σ1 G6 M3 s6 dj6 ⟨rfl, ⟨x8, rfl⟩, hN⟩
    rw [List.length_map, List.length_range] at hN
    have ek : stepk pe p = none := by
      unfold stepk
      rw [pl]
      exact find_none hN
    refine fin q s6 (EvM.toE (evm_lst (ds := [.str "can not", .bool true]) (ea_two ev_str ev_bl) (by show 2 ≤ 100000; decide))) ?_
    unfold stD
    rw [ek]
    rfl
end
end Lw
/-! text L7 -/
set_option Elab.async false
set_option linter.all false
set_option maxRecDepth 100000
set_option maxHeartbeats 4000000
namespace Lw
open PySem PySem.Spec PyProof.Rows L2
/-- (f, g)[..](..) -/
def tCall2 (fA fB : Addr) (spA spB : Sp) (E : L2.St → XK) (tf : TE) (t : TA) : TE := fun σ H Q => tf σ H fun x H1 => (x = .ref fA ∧ t σ H1 fun vs H2 => spA vs H2 Q (E σ)) ∨ (x = .ref fB ∧ t σ H1 fun vs H2 => spB vs H2 Q (E σ))
section
variable {X : Cx} {CX : CXT} {k : Nat} {fA fB : Addr} {fdA fdB : FuncData} {psA psB : List Str} {spA spB : Sp} {E : L2.St → XK} {pos : Pos} {fe e : Expr} {es : List Expr} {tf : TE} {t : TA}
theorem pe_call2 (FA : FnOk X.prog X.w X.K X.mg X.base CX k fA fdA psA spA) (FB : FnOk X.prog X.w X.K X.mg X.base CX k fB fdB psB spB) (hr : Room k X.A) (kA : PySem.W.keepIn X.K (.ref fA) = true) (kB : PySem.W.keepIn X.K (.ref fB) = true) (bA : Binds X.K fdA psA []) (bB : Binds X.K fdB psB []) (hx : ∀ σ, PassesAt CX X σ (E σ)) (hf : PE X fe tf) (ha : PA X (e :: es) t)
    (hc : eval (.Call fe (e :: es) [] pos) X.env = (do callWith pos (← eval fe X.env) [] (backTo pos (starEach (e :: es) X.env)) (backToKw pos (keywordEach [] X.env))) := by rfl)
    (he : starEach (e :: es) X.env = (false, eval e X.env) :: starEach es X.env := by rfl) (hpl : (backTo pos (starEach es X.env)).any (·.1) = false := by rfl) :
    PE X (.Call fe (e :: es) [] pos) (tCall2 fA fB spA spB E tf t) := by
  refine ⟨fun pins s σ H Q I h => ?_⟩
  refine Call_ (thn (hf.run pins s σ H _ I h) fun v s1 hh => ?_) hc
  obtain ⟨x, H1, I1, r1, hh⟩ := hh
  rcases hh with ⟨rfl, q⟩ | ⟨rfl, q⟩
  · cases r1
    exact PySem.W.callWith_K (h₀ := X.base) I.ok.mod.kin kA (thn (ha.run pos pins s1 σ H1 _ I1 q) fun us s2 ⟨vs, H2, I2, r, q⟩ => ⟨I2.kIn, run_fnS FA hr bA (hx σ) I2 r q⟩) he hpl
  · cases r1
    exact PySem.W.callWith_K (h₀ := X.base) I.ok.mod.kin kB (thn (ha.run pos pins s1 σ H1 _ I1 q) fun us s2 ⟨vs, H2, I2, r, q⟩ => ⟨I2.kIn, run_fnS FB hr bB (hx σ) I2 r q⟩) he hpl
theorem pss_guard {X : Cx} {ss : List Stmt} {p : Prop} {t : TS} (h : p → PSs X ss t) : PSs X ss (fun D σ H => p ∧ t D σ H) := ⟨fun pins s σ H D I hq => (h hq.1).run pins s σ H D I hq.2⟩
end
section
variable {P : Program} {w : World} {K : PySem.W.Frag} {mg : Str → Option Value} {base : Heap} {C : Addr}
/-! ### _law_heard(door, net, seats, walk, end) -/
def R_heard : List PyData → PyData → Prop := fun ds d => ∃ (door : Nat) (x y z e : PyData) (o : Option PyData), ds = [nD door, x, y, z, e] ∧ ((door = 2 ∧ R_step [x, y, z, e] o) ∨ (door = 0 ∧ R_near true [x, y, z] o) ∨ (door = 1 ∧ R_near false [x, y, z] o)) ∧ d = o.getD cnD
theorem sc__law_heard : FnScope ["_law_door", "_law_net_here", "_law_seats", "_law_walk_here", "_law_end_so", "slip_so"] ["_law_door", "_law_net_here", "_law_seats", "_law_walk_here", "_law_end_so"] (defScope s__law_heard) := ⟨rfl, rfl, rfl, by decide +kernel, rfl, by decide +kernel, by decide +kernel⟩
def tbH (K : PySem.W.Frag) (C fA fB : Addr) (W : WX) : TS := tSeq (tIfS (tTest (tOp rEq (tVar 0) (tC (.int 2)))) (tRet (tCallS (PrX K C R_step) (WE W) (tCons (tVar 1) (tCons (tVar 2) (tCons (tVar 3) (tCons (tVar 4) tNil)))))) tNext)
  (tRet (tCall2 fA fB (PrX K C (R_near true)) (PrX K C (R_near false)) (WE W) (tOp (rIxT K) (tTup (tCons (tC (.ref fA)) (tCons (tC (.ref fB)) tNil))) (tVar 0)) (tCons (tVar 1) (tCons (tVar 2) (tCons (tVar 3) tNil)))))
def tsH (K : PySem.W.Frag) (C : Addr) (a : Addr) (cls : Value) (d : Option Addr) : TS := fun D σ H => (cls = .ref C ∧ d = none) ∧ tRet (tLst (tCons (tC (.str "can not")) (tCons (tCB (rIsE K C a) (tCons (tVar 5) (tCons (tC (.ty "ValueError")) tNil))) tNil))) D σ H
theorem c_law_heard (T : Tx mg) (cn : CN K mg C) (D : Dn K mg "_law_heard" s__law_heard ["_law_door", "_law_net_here", "_law_seats", "_law_walk_here", "_law_end_so"]) (k_next : CalX P w K mg base 8 "next_order" (PrX K C (R_near true))) (k_ahead : CalX P w K mg base 8 "order_ahead" (PrX K C (R_near false))) (k_step : CalX P w K mg base 7 "step_to" (PrX K C R_step)) : Cal P w K mg base 9 "_law_heard" (Pr K R_heard) := by
  refine D.pr sc__law_heard (fun ds d h => by obtain ⟨_, _, _, _, _, _, rfl, _⟩ := h; rfl) (fun f cdv A outer s H E vs ds d hr h hv => ?_)
  obtain ⟨door, x, y, z, e, o, rfl, hR, rfl⟩ := h
  obtain ⟨v0, v1, v2, v3, v4, rfl, h0, h1, h2, h3, h4⟩ := dp5 hv
  obtain ⟨fA, fdA, psA, FA, mA, kA, bA⟩ := k_next.ex
  obtain ⟨fB, fdB, psB, FB, mB, kB, bB⟩ := k_ahead.ex
  obtain ⟨fS, fdS, psS, FS, mS, kS, bS⟩ := k_step.ex
  have hr7 : Room 7 _ := hr.mono (by decide)
  refine ⟨_, pss_one (ps_try_as (i := 5) (tb := tbH K C fA fB) (ts := tsH K C) (Wout := fun _ _ _ _ => False) rfl rfl sc__law_heard.nd rfl rfl ⟨rfl, by decide, Or.inl cn.g⟩ L2.takes0
    (fun W pn xe tk _ => pss_cons (ps_if (pt_cmpR op_eq (pv 0) pe_int (nomark _)) (pss_one (ps_ret (by exact (pe_callS FS hr7 rfl mS kS.1 bS (fun σ => passAt tk σ) (by exact (pa_cons (pv 1) (pa_cons (pv 2) (pa_cons (pv 3) (pa_cons (pv 4) pa_nil))))))))) pss_nil)
      (pss_one (ps_ret (by exact (pe_call2 FA FB hr kA.1 kB.1 bA bB (fun σ => passAt tk σ) (xT K (pe_tup (pa_cons (pe_glob rfl mA rfl) (pa_cons (pe_glob rfl mB rfl) pa_nil))) (pv 0)) (pa_cons (pv 1) (pa_cons (pv 2) (pa_cons (pv 3) pa_nil))))))))
    (fun a oe cls dd pn hz hf => pss_guard fun hg => pss_one (ps_ret (pe_lst (pa_cons pe_str (pa_cons (by
      obtain ⟨rfl, rfl⟩ := hg
      exact pe_callB (call_isE cn.c hz hf) rfl T.isinstance_ (by decide +kernel) (pa_cons (pv 5) (pa_cons (pe_bltn (v := .ty "ValueError") rfl T.vE (by decide +kernel) rfl) pa_nil)) (by decide) (by decide)) pa_nil)))))), fun Q q => ?_⟩
  cases h0
  have hC : ∀ (D' : Ends) (hD : D'.rt = Q) (H' : Hp), o = none → Same H H' → wAs K (.ref C) 5 (tsH K C) (fun _ _ _ _ => False) D' (.ref C) none [some (.int ((door : Nat) : Int)), some v1, some v2, some v3, some v4, none] H' := fun D' hD H' ho s' => by
    refine ⟨true, cn.e, fun _ a ha => ⟨⟨rfl, rfl⟩, ?_⟩, fun z => nomatch z⟩
    refine ⟨.ref a, rfl, .ty "ValueError", .type "ValueError", true, rfl, fun u r => r, cn.v, ?_⟩
    refine ⟨by show 2 ≤ sizeLine; decide, fun p hp => ?_⟩
    show D'.rt _ _
    rw [hD]
    rw [ho] at q
    exact q (.ref p) _ (s'.trans (same_new hp)) (.lst (.of upd_same) (.cons (.str _) (.cons (.bl _) .nil)))
  show tbH K C fA fB _ _ [some (.int ((door : Nat) : Int)), some v1, some v2, some v3, some v4, none] (jn H [])
  unfold tbH
  refine s_ifN (eb_test (K := K) (ev_eqI (ev_var rfl (.int _)) ev_int)) (dj_nil _) (fun b G2 s2 dj2 => ?_) (fun b G2 s2 dj2 => ?_)
  · rw [decide_eq_true_eq] at b
    rcases hR with ⟨_, hR⟩ | ⟨hd, _⟩ | ⟨hd, _⟩
    · have ea : EvA K [] (tCons (tVar 1) (tCons (tVar 2) (tCons (tVar 3) (tCons (tVar 4) tNil)))) [some (.int ((door : Nat) : Int)), some v1, some v2, some v3, some v4, none] G2 [x, y, z, e] := ea_cons (ev_var rfl (h1.mono s2)) (ea_cons (ev_var rfl (h2.mono s2)) (ea_two (ev_var rfl (h3.mono s2)) (ev_var rfl (h4.mono s2))))
      unfold tRet tCallS
      refine ea G2 (Same.refl _) dj2 _ fun vs G3 s3 dj3 hvs => ?_
      refine ⟨[x, y, z, e], o, hvs, hR, fun d ed v H' s4 hd => ?_, fun eo H' s4 => ?_⟩
      · rw [ed] at q
        exact q v H' (s2.trans (s3.trans s4)) hd
      · exact hC _ rfl H' eo (s2.trans (s3.trans s4))
    · omega
    · omega
  · rw [decide_eq_false_iff_not] at b
    refine ⟨by show 2 ≤ sizeLine; decide, fun p hp => ?_⟩
    have n2 := jn_none hp
    rw [jn_new hp]
    have sp := s2.trans (same_new (o := .tup [.ref fA, .ref fB]) n2.2)
    have ea : EvA K [] (tCons (tVar 1) (tCons (tVar 2) (tCons (tVar 3) tNil))) [some (.int ((door : Nat) : Int)), some v1, some v2, some v3, some v4, none] (upd G2 p (.tup [.ref fA, .ref fB])) [x, y, z] := ea_cons (ev_var rfl (h1.mono sp)) (ea_two (ev_var rfl (h2.mono sp)) (ev_var rfl (h3.mono sp)))
    rcases hR with ⟨hd, _⟩ | ⟨rfl, hR⟩ | ⟨rfl, hR⟩
    · omega
    · refine ⟨_, rfl, p, [.ref fA, .ref fB], 0, .ref fA, rfl, rfl, .of (jn_at (dj_nil _) upd_same), rfl, .inl ⟨rfl, ?_⟩⟩
      refine ea _ (Same.refl _) (dj_nil _) _ fun vs G3 s3 dj3 hvs => ?_
      refine ⟨[x, y, z], o, hvs, hR, fun d ed v H' s4 hd => ?_, fun eo H' s4 => ?_⟩
      · rw [ed] at q
        exact q v H' (sp.trans (s3.trans s4)) hd
      · exact hC _ rfl H' eo (sp.trans (s3.trans s4))
    · refine ⟨_, rfl, p, [.ref fA, .ref fB], 1, .ref fB, rfl, rfl, .of (jn_at (dj_nil _) upd_same), rfl, .inr ⟨rfl, ?_⟩⟩
      refine ea _ (Same.refl _) (dj_nil _) _ fun vs G3 s3 dj3 hvs => ?_
      refine ⟨[x, y, z], o, hvs, hR, fun d ed v H' s4 hd => ?_, fun eo H' s4 => ?_⟩
      · rw [ed] at q
        exact q v H' (sp.trans (s3.trans s4)) hd
      · exact hC _ rfl H' eo (sp.trans (s3.trans s4))
end
end Lw
/-! text K11 -/
set_option Elab.async false
set_option linter.all false
set_option maxRecDepth 100000
set_option maxHeartbeats 4000000
namespace Lw
open PySem PySem.Spec PyProof.Rows L2
/-! ### a def that may raise, called where it does not -/
def safe (sp : Sp) : Sp := fun vs H Q _ => sp vs H Q (fun _ _ _ => False)
section
variable {P : Program} {w : World} {K : PySem.W.Frag} {mg : Str → Option Value} {base : Heap} {k : Nat} {f : Addr} {fd : FuncData} {ps : List Str} {sp : Sp}
theorem fnok_safe (F : FnOk P w K mg base (L2.CX P w) k f fd ps sp) : FnOk P w K mg base CX0 k f fd ps (safe sp) := by
  refine ⟨fun vs H Q E h => F.len vs H Q _ h, fun A outer s H args us vs Q E hr e0 hb hv hs => codeAny_mono (F.run A outer s H args us vs Q (fun _ _ _ => False) hr e0 hb hv hs) fun r s' hq => ?_⟩
  cases r with
  | error e =>
    obtain ⟨_, _, _, _, _, _, _, _, _, _, _, _, z⟩ := hq
    exact z.elim
  | ok fl => cases fl <;> exact hq
theorem CalX.safe {x : Str} (c : CalX P w K mg base k x sp) : Cal P w K mg base k x (safe sp) := by
  obtain ⟨f, fd, ps, F, m, kp, b⟩ := c.ex
  exact ⟨f, fd, ps, fnok_safe F, m, kp, b⟩
theorem fnok_pr {R : List PyData → Option PyData → Prop} {C : Addr} : ∀ vs H Q (E : XK), Pr K (fun ds d => R ds (some d)) vs H Q E → Lw.safe (PrX K C R) vs H Q E := fun vs H Q E h => by
  obtain ⟨ds, d, h1, h2, h3⟩ := h
  exact ⟨ds, some d, h1, h2, fun d' e => by cases e; exact h3, fun e => nomatch e⟩
theorem Cal.imp {x : Str} {sp' : Sp} (c : Cal P w K mg base k x sp) (h : ∀ vs H Q E, sp' vs H Q E → sp vs H Q E) : Cal P w K mg base k x sp' := by
  obtain ⟨f, fd, ps, F, m, kp, b⟩ := c.ex
  exact ⟨f, fd, ps, F.imp h, m, kp, b⟩
/-- where it answers, it is as one that never raises -/
theorem CalX.pr {x : Str} {R : List PyData → Option PyData → Prop} {C : Addr} (c : CalX P w K mg base k x (PrX K C R)) : Cal P w K mg base k x (Pr K fun ds d => R ds (some d)) := c.safe.imp fnok_pr
end
/-! ### calls with keywords alone, from the last to the first -/
def gR (us ws : List Value) : List Value := match us with
  | [] => ws.reverse
  | _ :: _ => []
def gRV (vs zs : List V) : List V := match vs with
  | [] => zs.reverse
  | _ :: _ => []
/-- it may be called by keywords -/
structure CalK (P : Program) (w : World) (K : PySem.W.Frag) (mg : Str → Option Value) (base : Heap) (k : Nat) (x : Str) (ks : List Str) (sp : Sp) : Prop where
  ex : ∃ (f : Addr) (fd : FuncData) (ps : List Str), FnOk P w K mg base CX0 k f fd ps sp ∧ mg x = some (.ref f) ∧ PySem.W.keepIn K (.ref f) = true ∧ KBinds K fd ps ks gR gRV
section
variable {P : Program} {w : World} {K : PySem.W.Frag} {mg : Str → Option Value} {base : Heap} {k : Nat} {x : Str} {st : Stmt} {ps ks : List Str} {sp : Sp}
theorem Cal.kw (c : Cal P w K mg base k x sp) (D : Dn K mg x st ps) (hne : ps ≠ [])
    (h : ∀ (kV doc pm : Value) (an : Option Addr) (cdv ct : Value) (ws : List Value), ws.length = ps.length → bindArgs (PySem.W.fnOf x x (defArgs st) (defBody st) (defScope st) .none kV doc pm an cdv ct) ⟨[], ks.zip ws⟩ = pure (ps.zip ws.reverse)) : CalK P w K mg base k x ks sp := by
  obtain ⟨f, fd, ps', F, m, ⟨kp, ep, oc, od, osl, lk⟩, b⟩ := c.ex
  obtain ⟨f2, fd2, F2, m2, b2, ep2⟩ := D.ex
  rw [m] at m2
  cases m2
  obtain ⟨oc2, od2, dV, kV, doc, pm, an, cdv, ct, osl2, efd, lk2, _, hD, _⟩ := F2.ex
  rw [lk] at lk2
  cases lk2
  rw [ep] at ep2
  subst ep2
  refine ⟨f, fd, ps', F, m, kp, ⟨fun s us ws _ hl => ?_, fun {vs us zs ws} r1 r2 => ?_⟩⟩
  · rcases hD with ⟨_, rfl⟩ | ⟨e, _⟩
    · cases us with
      | nil =>
        have hl : ws.length = ps'.length := by
          have : (gR [] ws).length = ps'.length := hl
          unfold gR at this
          rw [List.length_reverse] at this
          exact this
        rw [efd]
        exact .of_eq (h kV doc pm an cdv ct ws hl)
      | cons u us =>
        exfalso
        have : ([] : List Value).length = ps'.length := hl
        exact hne (List.eq_nil_of_length_eq_zero this.symm)
    · exact absurd rfl e
  · cases r1 with
    | nil => exact r2.reverse
    | cons _ _ => exact .nil
end
def tCallKW (sp : Sp) (tk : TA) : TE := fun σ H Q => tk σ H fun zs H1 => sp zs.reverse H1 Q E0
section
variable {X : Cx} {k j : Nat} {x : Str} {ks : List Str} {sp : Sp} {p pos : Pos} {kws : List Keyword} {tk : TA}
theorem pe_ck (c : CalK X.prog X.w X.K X.mg X.base k x ks sp) (hr : Room j X.A) (hk : k ≤ j) (hg : Gl X x) (hkw : PK X kws tk)
    (hall : (backToKw pos (keywordEach kws X.env)).all (·.1.isSome) = true := by rfl) (hks : (backToKw pos (keywordEach kws X.env)).filterMap (·.1) = ks := by rfl)
    (hdb : (x == ("__debug__" : Str)) = false := by decide) (hpl : ((backTo pos (starEach [] X.env)).any (·.1) || (backToKw pos (keywordEach kws X.env)).any (·.1.isNone)) = false := by rfl) :
    PE X (.Call (.Name x p) [] kws pos) (tCallKW (fr_ sp) tk) := by
  obtain ⟨f, fd, ps, F, hm, kp, b⟩ := c.ex
  refine ⟨fun pins s σ H Q I h => ?_⟩
  refine wpAny_Call_Name_kw (ld_glob I hg hm ?_ hdb)
  refine PySem.W.callWith_KW0 (h₀ := X.base) I.ok.mod.kin kp hall (thn (hkw.run pos pins s σ H _ I h) fun ws s2 hh => ?_) hpl
  obtain ⟨zs, H2, I2, rz, q2⟩ := hh
  refine ⟨I2.kIn, ?_⟩
  rw [hks]
  exact run_fnk (vs := []) (us := []) (FnOk.frame F) (hr.mono hk) b L2.pass0 I2 .nil rz q2
end
section
variable {K : PySem.W.Frag} {M : Mh} {σ : L2.St} {G : Hp} {ta : TA} {ds : List PyData} {d : PyData} {R : List PyData → PyData → Prop}
theorem dpall_rev {H : Hp} : ∀ {vs : List V} {ds : List PyData}, DpAll K H vs ds → DpAll K H vs.reverse ds.reverse
  | _, _, .nil => .nil
  | _, _, .cons h t => by
    rw [List.reverse_cons, List.reverse_cons]
    exact (dpall_rev t).app (.one h)
theorem ev_callK (ha : EvA K M ta σ G ds) (hR : R ds.reverse d) : Ev K M (tCallKW (fr_ (Pr K R)) ta) σ G d := fun G1 s dj Q q => ha G1 s dj _ fun vs G2 s2 dj2 hv =>
  ⟨G2, M, rfl, dj2, ds.reverse, d, dpall_rev hv, hR, fun v H' s3 hd dj3 => q v H' (s2.trans s3) dj3 hd⟩
end
end Lw
/-! text M4 -/
set_option Elab.async false
set_option linter.all false
set_option maxRecDepth 100000
set_option maxHeartbeats 4000000
namespace Lw
open PySem PySem.Spec PyProof.Rows L2
section
variable {gs : Gs} {T : List (Option Nat)} {p : List Nat} {k : Nat}
theorem near_next (h : Tk gs T) (hk : (W gs T)[k]? = some p) : nearO gs T true p = ((W gs T)[k + 1]?).map rD := by
  have ho := (mem_W.mp (List.mem_of_getElem? hk)).2
  unfold nearO besO
  rw [if_pos ho]
  rw [W_All h.sound (arF_ok gs T)] at hk ⊢
  rw [All_next h.going hk]
theorem near_ahead (h : Tk gs T) (hk : (W gs T)[k]? = some p) : nearO gs T false p = (if k = 0 then none else (W gs T)[k - 1]?).map rD := by
  have ho := (mem_W.mp (List.mem_of_getElem? hk)).2
  unfold nearO besO
  rw [if_pos ho]
  rw [W_All h.sound (arF_ok gs T)] at hk ⊢
  rw [All_ahead h.going hk]
theorem near_out {dir : Bool} (ho : outc gs p ≠ T) : nearO gs T dir p = none := by
  unfold nearO
  rw [if_neg ho]
theorem end_least (h : Tk gs T) {p : List Nat} (hp : (W gs T).head? = some p) : rD (gone (fOf (arF gs T)) true gs.length (List.range gs.length)) = rD p := by
  rw [W_All h.sound (arF_ok gs T), All_least h.going] at hp
  cases hp
  rfl
theorem end_greatest (h : Tk gs T) {p : List Nat} (hp : (W gs T).getLast? = some p) : rD (gone (fOf (arF gs T)) false gs.length (List.range gs.length)) = rD p := by
  rw [W_All h.sound (arF_ok gs T), All_greatest h.going] at hp
  cases hp
  rfl
end
/-! ### the hall given by hand -/
def hgs : Gs := [(0, 1), (0, 2), (1, 3), (2, 4)]
def hT : List (Option Nat) := [some 0, some 2, some 1, some 4]
theorem hW : W hgs hT = [[0, 1, 2, 3], [0, 1, 3, 2], [0, 2, 1, 3], [2, 0, 1, 3]] := by decide +kernel
theorem hP {p : List Nat} (h : p ∈ perms 4 [] 4 := by decide +kernel) : PermOf hgs.length p := mem_perms0.mp h
theorem hTk : Tk hgs hT := ⟨⟨[0, 1, 2, 3], hP, by decide +kernel⟩, by decide⟩
theorem hWeb : WebOk 5 hgs := by
  intro g hg
  have : g = (0, 1) ∨ g = (0, 2) ∨ g = (1, 3) ∨ g = (2, 4) := by simpa [hgs] using hg
  rcases this with rfl | rfl | rfl | rfl <;> decide
theorem hHad {x y : PyData} (hx : As 3 x (webD 5 hgs)) (hy : As 1 y (tD hT)) : Had x y 5 hgs hT := ⟨hx, hy, by decide, hWeb, hTk⟩
theorem eTk : Tk [] [] := ⟨⟨[], ⟨List.nodup_nil, fun k => by simp⟩, rfl⟩, by decide⟩
theorem eHad {x y : PyData} (hx : As 3 x (webD 2 [])) (hy : As 1 y (tD [])) : Had x y 2 [] [] := ⟨hx, hy, by decide, fun g hg => by simp at hg, eTk⟩
end Lw
/-! text L8a -/
set_option Elab.async false
set_option linter.all false
set_option maxRecDepth 100000
set_option maxHeartbeats 20000000
namespace Lw
open PySem PySem.Spec PyProof.Rows L2
section
variable {P : Program} {w : World} {K : PySem.W.Frag} {mg : Str → Option Value} {base : Heap} {C : Addr}
theorem s_setG {M : Mh} {σ : L2.St} {G : Hp} {te : TE} {ds : List PyData} {D : Ends} {us : TS} {k : Nat} (h : EvM K M te σ G ds) (dj : Dj G M) (q : ∀ p xs G2, Same G G2 → Dj G2 M → G2 p = some (.lst xs) → DpAll K G2 xs ds → us D (σ.set k (some (.ref p))) (jn G2 M)) : tSeq (tAsg te (gName k)) us D σ (jn G M) := h G (Same.refl _) dj _ fun p xs G2 s hm dj2 hd => by
  have n := dj_here dj2
  rw [jn_give hm]
  exact q p xs _ (s.trans (same_new n)) (dj_give dj2 hm) upd_same (hd.mono (same_new n))
theorem s_par3 {M : Mh} {σ : L2.St} {G : Hp} {ta : TA} {d1 d2 d3 : PyData} {D : Ends} {us : TS} {i j l : Nat} (h : EvA K M ta σ G [d1, d2, d3]) (dj : Dj G M) (q : ∀ u v x G2, Same G G2 → Dj G2 M → Dp K G2 u d1 → Dp K G2 v d2 → Dp K G2 x d3 → us D (((σ.set i (some u)).set j (some v)).set l (some x)) (jn G2 M)) : tSeq (tPar3 i j l ta) us D σ (jn G M) := h G (Same.refl _) dj _ fun vs G2 s dj2 hv => by
  obtain ⟨u, v, x, rfl, h1, h2, h3⟩ := dp3 hv
  exact ⟨u, v, x, rfl, q u v x G2 s dj2 h1 h2 h3⟩
/-! what is answered there -/
theorem lvh {n : Nat} {d : PyData} (h : Lv n d) : Lv n d := h
theorem hW0 : (W hgs hT)[0]? = some [0, 1, 2, 3] := by rw [hW]; rfl
theorem hW1 : (W hgs hT)[1]? = some [0, 1, 3, 2] := by rw [hW]; rfl
theorem hW2 : (W hgs hT)[2]? = some [0, 2, 1, 3] := by rw [hW]; rfl
theorem hW3 : (W hgs hT)[3]? = some [2, 0, 1, 3] := by rw [hW]; rfl
theorem hW4 : (W hgs hT)[4]? = none := by rw [hW]; rfl
theorem hx : As 3 (webD 5 hgs) (webD 5 hgs) := as_web (by decide)
theorem hy : As 1 (tD hT) (tD hT) := as_t (by decide)
theorem rnear {dir : Bool} {p : List Nat} {o : Option PyData} (hp : p ∈ perms 4 [] 4) (ho : nearO hgs hT dir p = o) : R_near dir [webD 5 hgs, tD hT, rD p] o := ⟨_, _, _, 5, hgs, hT, p, rfl, hHad hx hy, as_r (by rw [(hP hp).length]; decide), hP hp, ho.symm⟩
theorem rstep {p q : List Nat} {o : Option PyData} (hp : p ∈ perms 4 [] 4) (hq : q ∈ perms 4 [] 4) (ho : stepO hgs hT p q = o) : R_step [webD 5 hgs, tD hT, rD p, rD q] o := ⟨_, _, _, _, 5, hgs, hT, p, q, rfl, hHad hx hy, as_r (by rw [(hP hp).length]; decide), as_r (by rw [(hP hq).length]; decide), hP hp, hP hq, ho.symm⟩
theorem qn1 : nearO hgs hT true [0, 1, 3, 2] = some (rD [0, 2, 1, 3]) := by rw [near_next hTk hW1, hW2]; rfl
theorem qa1 : nearO hgs hT false [2, 0, 1, 3] = some (rD [0, 2, 1, 3]) := by rw [near_ahead hTk hW3]; show ((W hgs hT)[2]?).map rD = _; rw [hW2]; rfl
theorem qn2 : nearO hgs hT true [2, 0, 1, 3] = none := by rw [near_next hTk hW3, hW4]; rfl
theorem qa2 : nearO hgs hT false [0, 1, 2, 3] = none := by rw [near_ahead hTk hW0]; rfl
theorem qn3 : nearO hgs hT true [1, 0, 2, 3] = none := near_out (by decide +kernel)
theorem qn4 : nearO hgs hT true [0, 1, 2, 3] = some (rD [0, 1, 3, 2]) := by rw [near_next hTk hW0, hW1]; rfl
theorem qa4 : nearO hgs hT false [0, 2, 1, 3] = some (rD [0, 1, 3, 2]) := by rw [near_ahead hTk hW2]; show ((W hgs hT)[1]?).map rD = _; rw [hW1]; rfl
theorem stepO_of {p q : List Nat} {o : Option Nat} (h1 : outc hgs p = hT) (h2 : outc hgs q = hT) (h3 : stepk q p = o) : stepO hgs hT p q = o.map fun k => rD (swp p k) := by
  unfold stepO
  rw [if_pos ⟨h1, h2⟩, h3]
theorem qs1 : stepO hgs hT [0, 1, 3, 2] [2, 0, 1, 3] = some (rD [0, 1, 2, 3]) := stepO_of (o := some 2) (by decide +kernel) (by decide +kernel) (by decide +kernel)
theorem qs2 : stepO hgs hT [0, 1, 2, 3] [0, 1, 2, 3] = none := stepO_of (o := none) (by decide +kernel) (by decide +kernel) (by decide +kernel)
theorem qs3 : stepO hgs hT [0, 1, 2, 3] [1, 0, 2, 3] = none := by
  unfold stepO
  rw [if_neg (fun h => absurd h.2 (by decide +kernel))]
theorem qs4 : stepO hgs hT [0, 2, 1, 3] [2, 0, 1, 3] = some (rD [2, 0, 1, 3]) := stepO_of (o := some 0) (by decide +kernel) (by decide +kernel) (by decide +kernel)
theorem fhn {p : List Nat} {o : Option PyData} (hp : p ∈ perms 4 [] 4) (ho : nearO hgs hT true p = o) : R_heard [nD 0, webD 5 hgs, tD hT, rD p, .none] (o.getD cnD) := ⟨0, _, _, _, _, o, rfl, .inr (.inl ⟨rfl, rnear hp ho⟩), rfl⟩
theorem fa_ {p : List Nat} {o : Option PyData} (hp : p ∈ perms 4 [] 4) (ho : nearO hgs hT false p = o) : R_heard [nD 1, webD 5 hgs, tD hT, rD p, .none] (o.getD cnD) := ⟨1, _, _, _, _, o, rfl, .inr (.inr ⟨rfl, rnear hp ho⟩), rfl⟩
theorem fhs {p q : List Nat} {o : Option PyData} (hp : p ∈ perms 4 [] 4) (hq : q ∈ perms 4 [] 4) (ho : stepO hgs hT p q = o) : R_heard [nD 2, webD 5 hgs, tD hT, rD p, rD q] (o.getD cnD) := ⟨2, _, _, _, _, o, rfl, .inl ⟨rfl, rstep hp hq ho⟩, rfl⟩
theorem fhl : R_end true [webD 5 hgs, tD hT] (rD [0, 1, 2, 3]) := ⟨_, _, 5, hgs, hT, rfl, hHad hx hy, (end_least hTk (by rw [hW]; rfl)).symm⟩
theorem fhg : R_end false [webD 5 hgs, tD hT] (rD [2, 0, 1, 3]) := ⟨_, _, 5, hgs, hT, rfl, hHad hx hy, (end_greatest hTk (by rw [hW]; rfl)).symm⟩
theorem fe1 : R_end true [.list [nD 2, .list []], .list []] (rD []) := ⟨_, _, 2, [], [], rfl, eHad (as_lweb (n := 2) (gs := []) (by decide)) (as_lt (T := []) (by decide)), rfl⟩
theorem fe2 : R_end false [.tuple [nD 2, .tuple []], .tuple []] (rD []) := ⟨_, _, 2, [], [], rfl, eHad (as_web (n := 2) (gs := []) (by decide)) (as_t (T := []) (by decide)), rfl⟩
theorem inP (p : List Nat) (h : decide (p ∈ perms 4 [] 4) = true := by decide +kernel) : p ∈ perms 4 [] 4 := of_decide_eq_true h
theorem fk1 : R_near true [lstN 3 (webD 5 hgs), .list (hT.map oD), lD [0, 1, 2, 3]] (some (rD [0, 1, 3, 2])) := ⟨_, _, _, 5, hgs, hT, [0, 1, 2, 3], rfl, hHad (as_lweb (by decide)) (as_lt (by decide)), as_lr (by decide), hP, qn4.symm⟩
theorem fk2 : R_near false [webD 5 hgs, .list (hT.map oD), lD [0, 2, 1, 3]] (some (rD [0, 1, 3, 2])) := ⟨_, _, _, 5, hgs, hT, [0, 2, 1, 3], rfl, hHad hx (as_lt (by decide)), as_lr (by decide), hP, qa4.symm⟩
theorem fk3 : R_step [webD 5 hgs, .list (hT.map oD), lD [0, 2, 1, 3], lD [2, 0, 1, 3]] (some (rD [2, 0, 1, 3])) := ⟨_, _, _, _, 5, hgs, hT, [0, 2, 1, 3], [2, 0, 1, 3], rfl, hHad hx (as_lt (by decide)), as_lr (by decide), as_lr (by decide), hP, hP, qs4.symm⟩
structure HallV (K : PySem.W.Frag) (G : Hp) (v0 v1 v2 : V) : Prop where
  h0 : Dp K G v0 (webD 5 hgs)
  h1 : Dp K G v1 (tD hT)
  h2 : Dp K G v2 cnD
theorem HallV.mono {G G' : Hp} {v0 v1 v2 : V} (s : Same G G') (h : HallV K G v0 v1 v2) : HallV K G' v0 v1 v2 := ⟨h.h0.mono s, h.h1.mono s, h.h2.mono s⟩

end
end Lw
/-! text L8 -/
set_option Elab.async false
set_option linter.all false
set_option maxRecDepth 100000
set_option maxHeartbeats 2000000
namespace Lw
open PySem PySem.Spec PyProof.Rows L2
section
variable {P : Program} {w : World} {K : PySem.W.Frag} {mg : Str → Option Value} {base : Heap} {C : Addr}
theorem sc__law_by_hand_right : FnScope ["_law_hall", "_law_all_in", "_law_no_so", "_law_got", "_law_due"] [] (defScope s__law_by_hand_right) := ⟨rfl, rfl, rfl, by decide +kernel, rfl, by decide +kernel, by decide +kernel⟩
def R_by_hand : List PyData → PyData → Prop := fun ds d => ds = [] ∧ d = .bool true
theorem c_law_by_hand_right (T : Tx mg) (D : Dn K mg "_law_by_hand_right" s__law_by_hand_right []) (k__law_heard : Cal P w K mg base 9 "_law_heard" (Pr K R_heard)) (k_least_order : Cal P w K mg base 7 "least_order" (Pr K (R_end true))) (k_greatest_order : Cal P w K mg base 7 "greatest_order" (Pr K (R_end false))) (k__law_lists : Cal P w K mg base 4 "_law_lists" (Pr K (R_lists 3))) (k__law_same : Cal P w K mg base 3 "_law_same" (Pr K (R_same 2)))
    (w_next_order : CalK P w K mg base 8 "next_order" ["order", "outcome", "web"] (Pr K fun ds d => R_near true ds (some d))) (w_order_ahead : CalK P w K mg base 8 "order_ahead" ["order", "outcome", "web"] (Pr K fun ds d => R_near false ds (some d))) (w_step_to : CalK P w K mg base 7 "step_to" ["goal", "order", "outcome", "web"] (Pr K fun ds d => R_step ds (some d))) (w_least_order : CalK P w K mg base 7 "least_order" ["outcome", "web"] (Pr K (R_end true))) : Cal P w K mg base 10 "_law_by_hand_right" (Pr K R_by_hand) := by
  refine D.pr sc__law_by_hand_right (fun ds d h => by obtain ⟨rfl, _⟩ := h; rfl) (fun f cdv A outer s H E vs ds d hr h hv => ?_)
  obtain ⟨rfl, rfl⟩ := h
  have e0 := dp0 hv
  subst e0
  refine ⟨_, (pss_cons (ps_par3 (i := 0) (j := 1) (l := 2) rfl sc__law_by_hand_right.nd rfl rfl rfl (by decide) (by decide) (by decide) rfl rfl rfl (pa_cons (pe_tup (pa_cons pe_int (pa_cons (pe_tup (pa_cons (pe_tup (pa_cons pe_int (pa_cons pe_int pa_nil))) (pa_cons (pe_tup (pa_cons pe_int (pa_cons pe_int pa_nil))) (pa_cons (pe_tup (pa_cons pe_int (pa_cons pe_int pa_nil))) (pa_cons (pe_tup (pa_cons pe_int (pa_cons pe_int pa_nil))) pa_nil))))) pa_nil))) (pa_cons (pe_tup (pa_cons pe_int (pa_cons pe_int (pa_cons pe_int (pa_cons pe_int pa_nil))))) (pa_cons (pe_lst (pa_cons pe_str (pa_cons pe_bl pa_nil))) pa_nil))) rfl)
    (pss_cons (ps_set (i := 3) sc__law_by_hand_right.nd rfl (Or.inl rfl) (pe_lst (pa_cons (pe_ca k__law_heard hr (by decide) rfl (pa_cons pe_int (pa_cons (pv 0) (pa_cons (pv 1) (pa_cons (pe_tup (pa_cons pe_int (pa_cons pe_int (pa_cons pe_int (pa_cons pe_int pa_nil))))) (pa_cons pe_non pa_nil)))))) (pa_cons (pe_ca k__law_heard hr (by decide) rfl (pa_cons pe_int (pa_cons (pv 0) (pa_cons (pv 1) (pa_cons (pe_tup (pa_cons pe_int (pa_cons pe_int (pa_cons pe_int (pa_cons pe_int pa_nil))))) (pa_cons pe_non pa_nil)))))) pa_nil))))
    (pss_cons (ps_set (i := 3) sc__law_by_hand_right.nd rfl (Or.inl rfl) (pe_op op_cat (pv 3) (pe_lst (pa_cons (pe_ca k_least_order hr (by decide) rfl (pa_cons (pv 0) (pa_cons (pv 1) pa_nil))) pa_nil))))
    (pss_cons (ps_set (i := 4) sc__law_by_hand_right.nd rfl (Or.inl rfl) (pe_lst (pa_cons (pe_tup (pa_cons pe_int (pa_cons pe_int (pa_cons pe_int (pa_cons pe_int pa_nil))))) (pa_cons (pe_tup (pa_cons pe_int (pa_cons pe_int (pa_cons pe_int (pa_cons pe_int pa_nil))))) (pa_cons (pe_tup (pa_cons pe_int (pa_cons pe_int (pa_cons pe_int (pa_cons pe_int pa_nil))))) pa_nil)))))
    (pss_cons (ps_set (i := 3) sc__law_by_hand_right.nd rfl (Or.inl rfl) (pe_op op_cat (pv 3) (pe_lst (pa_cons (pe_ca k_greatest_order hr (by decide) rfl (pa_cons (pv 0) (pa_cons (pv 1) pa_nil))) (pa_cons (pe_ca k__law_heard hr (by decide) rfl (pa_cons pe_int (pa_cons (pv 0) (pa_cons (pv 1) (pa_cons (pe_tup (pa_cons pe_int (pa_cons pe_int (pa_cons pe_int (pa_cons pe_int pa_nil))))) (pa_cons (pe_tup (pa_cons pe_int (pa_cons pe_int (pa_cons pe_int (pa_cons pe_int pa_nil))))) pa_nil)))))) pa_nil)))))
    (pss_cons (ps_set (i := 4) sc__law_by_hand_right.nd rfl (Or.inl rfl) (pe_op op_cat (pv 4) (pe_lst (pa_cons (pe_tup (pa_cons pe_int (pa_cons pe_int (pa_cons pe_int (pa_cons pe_int pa_nil))))) (pa_cons (pe_tup (pa_cons pe_int (pa_cons pe_int (pa_cons pe_int (pa_cons pe_int pa_nil))))) pa_nil)))))
    (pss_cons (ps_set (i := 3) sc__law_by_hand_right.nd rfl (Or.inl rfl) (pe_op op_cat (pv 3) (pe_lst (pa_cons (pe_ca k__law_heard hr (by decide) rfl (pa_cons pe_int (pa_cons (pv 0) (pa_cons (pv 1) (pa_cons (pe_tup (pa_cons pe_int (pa_cons pe_int (pa_cons pe_int (pa_cons pe_int pa_nil))))) (pa_cons pe_non pa_nil)))))) (pa_cons (pe_ca k__law_heard hr (by decide) rfl (pa_cons pe_int (pa_cons (pv 0) (pa_cons (pv 1) (pa_cons (pe_tup (pa_cons pe_int (pa_cons pe_int (pa_cons pe_int (pa_cons pe_int pa_nil))))) (pa_cons pe_non pa_nil)))))) pa_nil)))))
    (pss_cons (ps_set (i := 3) sc__law_by_hand_right.nd rfl (Or.inl rfl) (pe_op op_cat (pv 3) (pe_lst (pa_cons (pe_ca k__law_heard hr (by decide) rfl (pa_cons pe_int (pa_cons (pv 0) (pa_cons (pv 1) (pa_cons (pe_tup (pa_cons pe_int (pa_cons pe_int (pa_cons pe_int (pa_cons pe_int pa_nil))))) (pa_cons pe_non pa_nil)))))) pa_nil))))
    (pss_cons (ps_set (i := 3) sc__law_by_hand_right.nd rfl (Or.inl rfl) (pe_op op_cat (pv 3) (pe_lst (pa_cons (pe_ca k__law_heard hr (by decide) rfl (pa_cons pe_int (pa_cons (pv 0) (pa_cons (pv 1) (pa_cons (pe_tup (pa_cons pe_int (pa_cons pe_int (pa_cons pe_int (pa_cons pe_int pa_nil))))) (pa_cons (pe_tup (pa_cons pe_int (pa_cons pe_int (pa_cons pe_int (pa_cons pe_int pa_nil))))) pa_nil)))))) pa_nil))))
    (pss_cons (ps_set (i := 3) sc__law_by_hand_right.nd rfl (Or.inl rfl) (pe_op op_cat (pv 3) (pe_lst (pa_cons (pe_ca k__law_heard hr (by decide) rfl (pa_cons pe_int (pa_cons (pv 0) (pa_cons (pv 1) (pa_cons (pe_tup (pa_cons pe_int (pa_cons pe_int (pa_cons pe_int (pa_cons pe_int pa_nil))))) (pa_cons (pe_tup (pa_cons pe_int (pa_cons pe_int (pa_cons pe_int (pa_cons pe_int pa_nil))))) pa_nil)))))) pa_nil))))
    (pss_cons (ps_set (i := 4) sc__law_by_hand_right.nd rfl (Or.inl rfl) (pe_op op_cat (pv 4) (pe_op op_rep (pe_lst (pa_cons (pv 2) pa_nil)) pe_int)))
    (pss_cons (ps_set (i := 3) sc__law_by_hand_right.nd rfl (Or.inl rfl) (pe_op op_cat (pv 3) (pe_lst (pa_cons (pe_ck w_next_order hr (by decide) rfl (pk_cons (pe_lst (pa_cons pe_int (pa_cons pe_int (pa_cons pe_int (pa_cons pe_int pa_nil))))) (pk_cons (pe_lst (pa_cons pe_int (pa_cons pe_int (pa_cons pe_int (pa_cons pe_int pa_nil))))) (pk_cons (pe_ca k__law_lists hr (by decide) rfl (pa_cons (pv 0) pa_nil)) pk_nil)))) pa_nil))))
    (pss_cons (ps_set (i := 3) sc__law_by_hand_right.nd rfl (Or.inl rfl) (pe_op op_cat (pv 3) (pe_lst (pa_cons (pe_ck w_order_ahead hr (by decide) rfl (pk_cons (pe_lst (pa_cons pe_int (pa_cons pe_int (pa_cons pe_int (pa_cons pe_int pa_nil))))) (pk_cons (pe_lstOf K T (pv 1)) (pk_cons (pv 0) pk_nil)))) pa_nil))))
    (pss_cons (ps_set (i := 3) sc__law_by_hand_right.nd rfl (Or.inl rfl) (pe_op op_cat (pv 3) (pe_lst (pa_cons (pe_ck w_step_to hr (by decide) rfl (pk_cons (pe_lst (pa_cons pe_int (pa_cons pe_int (pa_cons pe_int (pa_cons pe_int pa_nil))))) (pk_cons (pe_lst (pa_cons pe_int (pa_cons pe_int (pa_cons pe_int (pa_cons pe_int pa_nil))))) (pk_cons (pe_lst (pa_cons pe_int (pa_cons pe_int (pa_cons pe_int (pa_cons pe_int pa_nil))))) (pk_cons (pv 0) pk_nil))))) pa_nil))))
    (pss_cons (ps_set (i := 3) sc__law_by_hand_right.nd rfl (Or.inl rfl) (pe_op op_cat (pv 3) (pe_lst (pa_cons (pe_ck w_least_order hr (by decide) rfl (pk_cons (pe_lst pa_nil) (pk_cons (pe_lst (pa_cons pe_int (pa_cons (pe_lst pa_nil) pa_nil))) pk_nil))) (pa_cons (pe_ca k_greatest_order hr (by decide) rfl (pa_cons (pe_tup (pa_cons pe_int (pa_cons (pe_tup pa_nil) pa_nil))) (pa_cons (pe_tup pa_nil) pa_nil))) pa_nil)))))
    (pss_one (ps_ret (pe_ca k__law_same hr (by decide) rfl (pa_cons (pv 3) (pa_cons (pe_op op_cat (pv 4) (pe_lst (pa_cons (pe_tup (pa_cons pe_int (pa_cons pe_int (pa_cons pe_int (pa_cons pe_int pa_nil))))) (pa_cons (pe_tup (pa_cons pe_int (pa_cons pe_int (pa_cons pe_int (pa_cons pe_int pa_nil))))) (pa_cons (pe_tup (pa_cons pe_int (pa_cons pe_int (pa_cons pe_int (pa_cons pe_int pa_nil))))) (pa_cons (pe_tup pa_nil) (pa_cons (pe_tup pa_nil) pa_nil))))))) pa_nil)))))))))))))))))))), fun Q q => ?_⟩
  have eh : EvA K [] (tCons (tTup (tCons (tC (.int 5)) (tCons (tTup (tCons (tTup (tCons (tC (.int 0)) (tCons (tC (.int 1)) tNil))) (tCons (tTup (tCons (tC (.int 0)) (tCons (tC (.int 2)) tNil))) (tCons (tTup (tCons (tC (.int 1)) (tCons (tC (.int 3)) tNil))) (tCons (tTup (tCons (tC (.int 2)) (tCons (tC (.int 4)) tNil))) tNil))))) tNil))) (tCons (tTup (tCons (tC (.int 0)) (tCons (tC (.int 2)) (tCons (tC (.int 1)) (tCons (tC (.int 4)) tNil))))) (tCons (tLst (tCons (tC (.str "can not")) (tCons (tC (.bl true)) tNil))) tNil))) (start ["_law_hall", "_law_all_in", "_law_no_so", "_law_got", "_law_due"] []) H [webD 5 hgs, tD hT, cnD] :=
    ea_cons (ev_tup (ea_two ev_int (ev_tup (ea_cons (ev_tup (ea_two ev_int ev_int) (by show 2 ≤ 100000; decide)) (ea_cons (ev_tup (ea_two ev_int ev_int) (by show 2 ≤ 100000; decide)) (ea_two (ev_tup (ea_two ev_int ev_int) (by show 2 ≤ 100000; decide)) (ev_tup (ea_two ev_int ev_int) (by show 2 ≤ 100000; decide))))) (by show 4 ≤ 100000; decide))) (by show 2 ≤ 100000; decide)) (ea_two (ev_tup (ea_cons ev_int (ea_cons ev_int (ea_two ev_int ev_int))) (by show 4 ≤ 100000; decide)) (EvM.toE (evm_lst (ea_two ev_str ev_bl) (by show 2 ≤ 100000; decide))))
  refine s_par3 eh (dj_nil _) fun v0 v1 v2 G0 s0 dj0 g0 g1 g2 => ?_
  have F : HallV K G0 v0 v1 v2 := ⟨g0, g1, g2⟩

  refine s_setG (K := K) (evm_lst (ds := [rD [0, 2, 1, 3], rD [0, 2, 1, 3]]) (ea_cons (ev_call (R := R_heard) (ea_cons (ds := _) (d := nD 0) ev_int (ea_cons (ev_var rfl F.h0) (ea_cons (ev_var rfl F.h1) (ea_two (d := rD _) (ev_tup (ea_cons ev_int (ea_cons ev_int (ea_two ev_int ev_int))) (by show 4 ≤ 100000; decide)) ev_non)))) (fhn (inP _) qn1)) (ea_cons (ev_call (R := R_heard) (ea_cons (ds := _) (d := nD 1) ev_int (ea_cons (ev_var rfl F.h0) (ea_cons (ev_var rfl F.h1) (ea_two (d := rD _) (ev_tup (ea_cons ev_int (ea_cons ev_int (ea_two ev_int ev_int))) (by show 4 ≤ 100000; decide)) ev_non)))) (fa_ (inP _) qa1)) ea_nil)) (by show 2 ≤ 100000; decide)) dj0 fun p1 xs1 G1 s1 dj1 hgot hgotd => ?_
  have F := F.mono s1

  refine s_setG (K := K) (evm_cat (ds := [rD [0, 2, 1, 3], rD [0, 2, 1, 3]]) (es := [rD [0, 1, 2, 3]]) (evl_varG rfl hgot hgotd) (EvM.toL (evm_lst (ds := [rD [0, 1, 2, 3]]) (ea_one (ev_call (R := R_end true) (ea_two (ev_var rfl F.h0) (ev_var rfl F.h1)) fhl)) (by show 1 ≤ 100000; decide))) (by show 2 + 1 ≤ 100000; decide)) dj1 fun p2 xs2 G2 s2 dj2 hgot hgotd => ?_
  have F := F.mono s2

  refine s_setG (K := K) (evm_lst (ds := [rD [0, 2, 1, 3], rD [0, 2, 1, 3], rD [0, 1, 2, 3]]) (ea_cons (ev_tup (ea_cons ev_int (ea_cons ev_int (ea_two ev_int ev_int))) (by show 4 ≤ 100000; decide)) (ea_cons (ev_tup (ea_cons ev_int (ea_cons ev_int (ea_two ev_int ev_int))) (by show 4 ≤ 100000; decide)) (ea_cons (ev_tup (ea_cons ev_int (ea_cons ev_int (ea_two ev_int ev_int))) (by show 4 ≤ 100000; decide)) ea_nil))) (by show 3 ≤ 100000; decide)) dj2 fun p3 xs3 G3 s3 dj3 hdue hdued => ?_
  have F := F.mono s3
  have hgot := s3 _ _ hgot
  have hgotd := hgotd.mono s3

  refine s_setG (K := K) (evm_cat (ds := [rD [0, 2, 1, 3], rD [0, 2, 1, 3], rD [0, 1, 2, 3]]) (es := [rD [2, 0, 1, 3], rD [0, 1, 2, 3]]) (evl_varG rfl hgot hgotd) (EvM.toL (evm_lst (ds := [rD [2, 0, 1, 3], rD [0, 1, 2, 3]]) (ea_cons (ev_call (R := R_end false) (ea_two (ev_var rfl F.h0) (ev_var rfl F.h1)) fhg) (ea_cons (ev_call (R := R_heard) (ea_cons (ds := _) (d := nD 2) ev_int (ea_cons (ev_var rfl F.h0) (ea_cons (ev_var rfl F.h1) (ea_two (d := rD _) (ev_tup (ea_cons ev_int (ea_cons ev_int (ea_two ev_int ev_int))) (by show 4 ≤ 100000; decide)) (ev_tup (ea_cons ev_int (ea_cons ev_int (ea_two ev_int ev_int))) (by show 4 ≤ 100000; decide)))))) (fhs (inP _) (inP _) qs1)) ea_nil)) (by show 2 ≤ 100000; decide))) (by show 3 + 2 ≤ 100000; decide)) dj3 fun p4 xs4 G4 s4 dj4 hgot hgotd => ?_
  have F := F.mono s4
  have hdue := s4 _ _ hdue
  have hdued := hdued.mono s4

  refine s_setG (K := K) (evm_cat (ds := [rD [0, 2, 1, 3], rD [0, 2, 1, 3], rD [0, 1, 2, 3]]) (es := [rD [2, 0, 1, 3], rD [0, 1, 2, 3]]) (evl_varG rfl hdue hdued) (EvM.toL (evm_lst (ds := [rD [2, 0, 1, 3], rD [0, 1, 2, 3]]) (ea_cons (ev_tup (ea_cons ev_int (ea_cons ev_int (ea_two ev_int ev_int))) (by show 4 ≤ 100000; decide)) (ea_cons (ev_tup (ea_cons ev_int (ea_cons ev_int (ea_two ev_int ev_int))) (by show 4 ≤ 100000; decide)) ea_nil)) (by show 2 ≤ 100000; decide))) (by show 3 + 2 ≤ 100000; decide)) dj4 fun p5 xs5 G5 s5 dj5 hdue hdued => ?_
  have F := F.mono s5
  have hgot := s5 _ _ hgot
  have hgotd := hgotd.mono s5

  refine s_setG (K := K) (evm_cat (ds := [rD [0, 2, 1, 3], rD [0, 2, 1, 3], rD [0, 1, 2, 3], rD [2, 0, 1, 3], rD [0, 1, 2, 3]]) (es := [cnD, cnD]) (evl_varG rfl hgot hgotd) (EvM.toL (evm_lst (ds := [cnD, cnD]) (ea_cons (ev_call (R := R_heard) (ea_cons (ds := _) (d := nD 0) ev_int (ea_cons (ev_var rfl F.h0) (ea_cons (ev_var rfl F.h1) (ea_two (d := rD _) (ev_tup (ea_cons ev_int (ea_cons ev_int (ea_two ev_int ev_int))) (by show 4 ≤ 100000; decide)) ev_non)))) (fhn (inP _) qn2)) (ea_cons (ev_call (R := R_heard) (ea_cons (ds := _) (d := nD 1) ev_int (ea_cons (ev_var rfl F.h0) (ea_cons (ev_var rfl F.h1) (ea_two (d := rD _) (ev_tup (ea_cons ev_int (ea_cons ev_int (ea_two ev_int ev_int))) (by show 4 ≤ 100000; decide)) ev_non)))) (fa_ (inP _) qa2)) ea_nil)) (by show 2 ≤ 100000; decide))) (by show 5 + 2 ≤ 100000; decide)) dj5 fun p6 xs6 G6 s6 dj6 hgot hgotd => ?_
  have F := F.mono s6
  have hdue := s6 _ _ hdue
  have hdued := hdued.mono s6

  refine s_setG (K := K) (evm_cat (ds := [rD [0, 2, 1, 3], rD [0, 2, 1, 3], rD [0, 1, 2, 3], rD [2, 0, 1, 3], rD [0, 1, 2, 3], cnD, cnD]) (es := [cnD]) (evl_varG rfl hgot hgotd) (EvM.toL (evm_lst (ds := [cnD]) (ea_one (ev_call (R := R_heard) (ea_cons (ds := _) (d := nD 0) ev_int (ea_cons (ev_var rfl F.h0) (ea_cons (ev_var rfl F.h1) (ea_two (d := rD _) (ev_tup (ea_cons ev_int (ea_cons ev_int (ea_two ev_int ev_int))) (by show 4 ≤ 100000; decide)) ev_non)))) (fhn (inP _) qn3))) (by show 1 ≤ 100000; decide))) (by show 7 + 1 ≤ 100000; decide)) dj6 fun p7 xs7 G7 s7 dj7 hgot hgotd => ?_
  have F := F.mono s7
  have hdue := s7 _ _ hdue
  have hdued := hdued.mono s7

  refine s_setG (K := K) (evm_cat (ds := [rD [0, 2, 1, 3], rD [0, 2, 1, 3], rD [0, 1, 2, 3], rD [2, 0, 1, 3], rD [0, 1, 2, 3], cnD, cnD, cnD]) (es := [cnD]) (evl_varG rfl hgot hgotd) (EvM.toL (evm_lst (ds := [cnD]) (ea_one (ev_call (R := R_heard) (ea_cons (ds := _) (d := nD 2) ev_int (ea_cons (ev_var rfl F.h0) (ea_cons (ev_var rfl F.h1) (ea_two (d := rD _) (ev_tup (ea_cons ev_int (ea_cons ev_int (ea_two ev_int ev_int))) (by show 4 ≤ 100000; decide)) (ev_tup (ea_cons ev_int (ea_cons ev_int (ea_two ev_int ev_int))) (by show 4 ≤ 100000; decide)))))) (fhs (inP _) (inP _) qs2))) (by show 1 ≤ 100000; decide))) (by show 8 + 1 ≤ 100000; decide)) dj7 fun p8 xs8 G8 s8 dj8 hgot hgotd => ?_
  have F := F.mono s8
  have hdue := s8 _ _ hdue
  have hdued := hdued.mono s8

  refine s_setG (K := K) (evm_cat (ds := [rD [0, 2, 1, 3], rD [0, 2, 1, 3], rD [0, 1, 2, 3], rD [2, 0, 1, 3], rD [0, 1, 2, 3], cnD, cnD, cnD, cnD]) (es := [cnD]) (evl_varG rfl hgot hgotd) (EvM.toL (evm_lst (ds := [cnD]) (ea_one (ev_call (R := R_heard) (ea_cons (ds := _) (d := nD 2) ev_int (ea_cons (ev_var rfl F.h0) (ea_cons (ev_var rfl F.h1) (ea_two (d := rD _) (ev_tup (ea_cons ev_int (ea_cons ev_int (ea_two ev_int ev_int))) (by show 4 ≤ 100000; decide)) (ev_tup (ea_cons ev_int (ea_cons ev_int (ea_two ev_int ev_int))) (by show 4 ≤ 100000; decide)))))) (fhs (inP _) (inP _) qs3))) (by show 1 ≤ 100000; decide))) (by show 9 + 1 ≤ 100000; decide)) dj8 fun p9 xs9 G9 s9 dj9 hgot hgotd => ?_
  have F := F.mono s9
  have hdue := s9 _ _ hdue
  have hdued := hdued.mono s9

  refine s_setG (K := K) (evm_cat (ds := [rD [0, 2, 1, 3], rD [0, 2, 1, 3], rD [0, 1, 2, 3], rD [2, 0, 1, 3], rD [0, 1, 2, 3]]) (es := [cnD, cnD, cnD, cnD, cnD]) (evl_varG rfl hdue hdued) (EvM.toL (evm_rep (n := 5) (evm_lst (ea_one (ev_var rfl F.h2)) (by show 1 ≤ 100000; decide)) (fun _ _ _ _ => ev_int) (by decide))) (by show 5 + 5 ≤ 100000; decide)) dj9 fun p10 xs10 G10 s10 dj10 hdue hdued => ?_
  have F := F.mono s10
  have hgot := s10 _ _ hgot
  have hgotd := hgotd.mono s10

  refine s_setG (K := K) (evm_cat (ds := [rD [0, 2, 1, 3], rD [0, 2, 1, 3], rD [0, 1, 2, 3], rD [2, 0, 1, 3], rD [0, 1, 2, 3], cnD, cnD, cnD, cnD, cnD]) (es := [rD [0, 1, 3, 2]]) (evl_varG rfl hgot hgotd) (EvM.toL (evm_lst (ds := [rD [0, 1, 3, 2]]) (ea_one (ev_callK (R := fun ds d => R_near true ds (some d)) (ds := [lD [0, 1, 2, 3], .list (hT.map oD), lstN 3 (webD 5 hgs)]) (ea_cons (EvM.toE (evm_lst (ea_cons ev_int (ea_cons ev_int (ea_two ev_int ev_int))) (by show 4 ≤ 100000; decide))) (ea_two (EvM.toE (evm_lst (ea_cons ev_int (ea_cons ev_int (ea_two ev_int ev_int))) (by show 4 ≤ 100000; decide))) (ev_call (R := R_lists 3) (ea_one (ev_var rfl F.h0)) ⟨_, rfl, hx.1, rfl⟩))) fk1)) (by show 1 ≤ 100000; decide))) (by show 10 + 1 ≤ 100000; decide)) dj10 fun p11 xs11 G11 s11 dj11 hgot hgotd => ?_
  have F := F.mono s11
  have hdue := s11 _ _ hdue
  have hdued := hdued.mono s11

  refine s_setG (K := K) (evm_cat (ds := [rD [0, 2, 1, 3], rD [0, 2, 1, 3], rD [0, 1, 2, 3], rD [2, 0, 1, 3], rD [0, 1, 2, 3], cnD, cnD, cnD, cnD, cnD, rD [0, 1, 3, 2]]) (es := [rD [0, 1, 3, 2]]) (evl_varG rfl hgot hgotd) (EvM.toL (evm_lst (ds := [rD [0, 1, 3, 2]]) (ea_one (ev_callK (R := fun ds d => R_near false ds (some d)) (ds := [lD [0, 2, 1, 3], .list (hT.map oD), webD 5 hgs]) (ea_cons (EvM.toE (evm_lst (ea_cons ev_int (ea_cons ev_int (ea_two ev_int ev_int))) (by show 4 ≤ 100000; decide))) (ea_two (EvM.toE (evm_lstOfT (ev_var rfl F.h1))) (ev_var rfl F.h0))) fk2)) (by show 1 ≤ 100000; decide))) (by show 11 + 1 ≤ 100000; decide)) dj11 fun p12 xs12 G12 s12 dj12 hgot hgotd => ?_
  have F := F.mono s12
  have hdue := s12 _ _ hdue
  have hdued := hdued.mono s12

  refine s_setG (K := K) (evm_cat (ds := [rD [0, 2, 1, 3], rD [0, 2, 1, 3], rD [0, 1, 2, 3], rD [2, 0, 1, 3], rD [0, 1, 2, 3], cnD, cnD, cnD, cnD, cnD, rD [0, 1, 3, 2], rD [0, 1, 3, 2]]) (es := [rD [2, 0, 1, 3]]) (evl_varG rfl hgot hgotd) (EvM.toL (evm_lst (ds := [rD [2, 0, 1, 3]]) (ea_one (ev_callK (R := fun ds d => R_step ds (some d)) (ds := [lD [2, 0, 1, 3], lD [0, 2, 1, 3], .list (hT.map oD), webD 5 hgs]) (ea_cons (EvM.toE (evm_lst (ea_cons ev_int (ea_cons ev_int (ea_two ev_int ev_int))) (by show 4 ≤ 100000; decide))) (ea_cons (EvM.toE (evm_lst (ea_cons ev_int (ea_cons ev_int (ea_two ev_int ev_int))) (by show 4 ≤ 100000; decide))) (ea_two (EvM.toE (evm_lst (ea_cons ev_int (ea_cons ev_int (ea_two ev_int ev_int))) (by show 4 ≤ 100000; decide))) (ev_var rfl F.h0)))) fk3)) (by show 1 ≤ 100000; decide))) (by show 12 + 1 ≤ 100000; decide)) dj12 fun p13 xs13 G13 s13 dj13 hgot hgotd => ?_
  have F := F.mono s13
  have hdue := s13 _ _ hdue
  have hdued := hdued.mono s13

  refine s_setG (K := K) (evm_cat (ds := [rD [0, 2, 1, 3], rD [0, 2, 1, 3], rD [0, 1, 2, 3], rD [2, 0, 1, 3], rD [0, 1, 2, 3], cnD, cnD, cnD, cnD, cnD, rD [0, 1, 3, 2], rD [0, 1, 3, 2], rD [2, 0, 1, 3]]) (es := [rD [], rD []]) (evl_varG rfl hgot hgotd) (EvM.toL (evm_lst (ds := [rD [], rD []]) (ea_cons (ev_callK (R := R_end true) (ds := [.list [], .list [nD 2, .list []]]) (ea_two (EvM.toE (evm_lst ea_nil (by show 0 ≤ 100000; decide))) (EvM.toE (evm_lst (ea_two ev_int (EvM.toE (evm_lst ea_nil (by show 0 ≤ 100000; decide)))) (by show 2 ≤ 100000; decide)))) fe1) (ea_cons (ev_call (R := R_end false) (ds := [.tuple [nD 2, .tuple []], .tuple []]) (ea_two (ev_tup (ea_two ev_int (ev_tup ea_nil)) (by show 2 ≤ 100000; decide)) (ev_tup ea_nil)) fe2) ea_nil)) (by show 2 ≤ 100000; decide))) (by show 13 + 2 ≤ 100000; decide)) dj13 fun p14 xs14 G14 s14 dj14 hgot hgotd => ?_
  have F := F.mono s14
  have hdue := s14 _ _ hdue
  have hdued := hdued.mono s14

  have lv : Lv 2 (.list [rD [0, 2, 1, 3], rD [0, 2, 1, 3], rD [0, 1, 2, 3], rD [2, 0, 1, 3], rD [0, 1, 2, 3], cnD, cnD, cnD, cnD, cnD, rD [0, 1, 3, 2], rD [0, 1, 3, 2], rD [2, 0, 1, 3], rD [], rD []]) := lv_lst (by show 15 ≤ 1000; decide) fun x hx => by
    have rl : ∀ p : List Nat, p.length ≤ 4 → Lv 1 (rD p) := fun p hp => lv_r (by omega)
    have cl : Lv 1 cnD := lv_lst (by show 2 ≤ 1000; decide) fun x hx => by
      rcases List.mem_cons.mp hx with rfl | hx
      · show leafB _ = true
        decide +kernel
      · rw [List.mem_singleton] at hx
        subst hx
        rfl
    simp only [List.mem_cons, List.not_mem_nil, or_false] at hx
    rcases hx with rfl | rfl | rfl | rfl | rfl | rfl | rfl | rfl | rfl | rfl | rfl | rfl | rfl | rfl | rfl <;> first | exact cl | exact rl _ (by decide)

  exact fin q (s0.trans (s1.trans (s2.trans (s3.trans (s4.trans (s5.trans (s6.trans (s7.trans (s8.trans (s9.trans (s10.trans (s11.trans (s12.trans (s13.trans (s14))))))))))))))) (ev_call (R := R_same 2) (ea_two (d := .list [rD [0, 2, 1, 3], rD [0, 2, 1, 3], rD [0, 1, 2, 3], rD [2, 0, 1, 3], rD [0, 1, 2, 3], cnD, cnD, cnD, cnD, cnD, rD [0, 1, 3, 2], rD [0, 1, 3, 2], rD [2, 0, 1, 3], rD [], rD []]) (e := .list ([rD [0, 2, 1, 3], rD [0, 2, 1, 3], rD [0, 1, 2, 3], rD [2, 0, 1, 3], rD [0, 1, 2, 3], cnD, cnD, cnD, cnD, cnD] ++ [rD [0, 1, 3, 2], rD [0, 1, 3, 2], rD [2, 0, 1, 3], rD [], rD []])) (ev_var rfl (.lst (.of hgot) hgotd)) (EvM.toE (evm_cat (ds := [rD [0, 2, 1, 3], rD [0, 2, 1, 3], rD [0, 1, 2, 3], rD [2, 0, 1, 3], rD [0, 1, 2, 3], cnD, cnD, cnD, cnD, cnD]) (es := [rD [0, 1, 3, 2], rD [0, 1, 3, 2], rD [2, 0, 1, 3], rD [], rD []]) (evl_varG rfl hdue hdued) (EvM.toL (evm_lst (ea_cons (ev_tup (ea_cons ev_int (ea_cons ev_int (ea_two ev_int ev_int))) (by show 4 ≤ 100000; decide)) (ea_cons (ev_tup (ea_cons ev_int (ea_cons ev_int (ea_two ev_int ev_int))) (by show 4 ≤ 100000; decide)) (ea_cons (ev_tup (ea_cons ev_int (ea_cons ev_int (ea_two ev_int ev_int))) (by show 4 ≤ 100000; decide)) (ea_cons (ev_tup ea_nil) (ea_cons (ev_tup ea_nil) ea_nil))))) (by show 5 ≤ 100000; decide))) (by show 10 + 5 ≤ 100000; decide)))) ⟨_, rfl, lv, rfl⟩)
end
end Lw
/-! text L9 -/
set_option Elab.async false
set_option linter.all false
set_option maxRecDepth 100000
set_option maxHeartbeats 1500000
namespace Lw
open PySem PySem.Spec PyProof.Rows L2
theorem perms120 {m : Nat} (h : m ≤ 5) : (perms m [] m).length ≤ 120 := by
  have : ∀ m ∈ List.range 6, (perms m [] m).length ≤ 120 := by decide +kernel
  exact this m (List.mem_range.mpr (by omega))
theorem W_len {gs : Gs} {T : List (Option Nat)} (h : gs.length ≤ 5) : (W gs T).length ≤ 120 := Nat.le_trans (List.length_filter_le _ _) (perms120 h)
theorem W_nodup (gs : Gs) (T : List (Option Nat)) : (W gs T).Nodup := List.Pairwise.sublist List.filter_sublist (perms_nodup gs.length [])
section
variable {K : PySem.W.Frag} {M : Mh} {σ : L2.St} {G : Hp} {ta tb te : TE} {D : Ends} {us : TS} {i j k : Nat} {p : Addr} {xs : List V} {ds : List PyData}
/-- x = e, a new list in the place of the old one -/
theorem s_setM2 (h : EvM K ((p, xs) :: M) te σ G ds) (hp : M.lookup p = none) (dj : Dj G ((p, xs) :: M)) (q : ∀ r ys G2, Same G G2 → M.lookup r = none → Dj G2 ((r, ys) :: M) → DpAll K G2 ys ds → us D (σ.set k (some (.ref r))) (jn G2 ((r, ys) :: M))) : tSeq (tAsg te (gName k)) us D σ (jn G ((p, xs) :: M)) := h G (Same.refl _) dj _ fun r ys G2 s hr dj2 hd => by
  have hrp : r ≠ p := lk_ne hr
  have hr2 : M.lookup r = none := by
    rw [lk_cons, if_neg hrp] at hr
    exact hr
  have dj3 := dj_swap hrp dj2
  have hpl : ((r, ys) :: M : Mh).lookup p = none := by
    rw [lk_cons, if_neg (Ne.symm hrp)]
    exact hp
  have n := dj_here dj3
  rw [jn_swap hrp, jn_give hpl]
  exact q r ys _ (s.trans (same_new n)) hr2 (dj_give dj3 hpl) (hd.mono (same_new n))
/-- an item of a list told by a relation -/
theorem evr_ixG {α : Type} {R : Hp → V → α → Prop} {l : List α} {a : α} {z : Int} {n : Nat} (m : ∀ x a G1 G2, Same G1 G2 → R G1 x a → R G2 x a) (hp : σ[i]? = some (some (.ref p))) (hG : G p = some (.lst xs)) (hx : RL R G xs l) (hb : ∀ G2, Same G G2 → Ev K M tb σ G2 (.int z)) (hz : ixN l.length z = some n) (hn : l[n]? = some a) : EvR M (tOp (rIxL K) (tVar i) tb) σ G (fun v G2 => R G2 v a) := fun G1 s dj Q q =>
  ⟨.ref p, hp, hb G1 s G1 (Same.refl _) dj _ fun y G2 s2 dj2 hy => by
    cases hy
    have hlt : n < xs.length := by rw [hx.1]; exact (List.getElem?_eq_some_iff.mp hn).1
    have ex : xs[n]? = some xs[n] := List.getElem?_eq_getElem hlt
    refine ⟨p, xs, z, xs[n], rfl, rfl, .of (jn_at dj2 (s2 _ _ (s _ _ hG))), ?_, q _ G2 s2 dj2 (m _ _ _ _ (s.trans s2) (hx.2 n _ a ex hn))⟩
    unfold atI
    rw [hx.1, hz]
    exact ex⟩
theorem ev_step {E : XK} {m : Nat} {p q : List Nat} (h1 : EvR M ta σ G (fun v G2 => Dp K G2 v (rD p))) (h2 : ∀ G2, Same G G2 → EvR M tb σ G2 (fun v G2 => WkV K G2 v q)) (hp : PermOf m p) (hq : PermOf m q) (hm : m ≤ 1000) : Ev K M (tCall (fr_ (spStep K)) [] E (tCons ta (tCons tb tNil))) σ G (stD p q) := fun G1 s dj Q qq => h1 G1 s dj _ fun v G2 s2 dj2 hv => h2 G2 (s.trans s2) G2 (Same.refl _) dj2 _ fun u G3 s3 dj3 hu =>
  ⟨G3, M, rfl, dj3, v, u, m, p, q, rfl, hv.mono s3, hu, hp, hq, hm, fun x H' s4 hd dj4 => qq x H' (s2.trans (s3.trans s4)) dj4 hd⟩
end
theorem ixN_nat {n k : Nat} (h : k < n) : ixN n ((k : Nat) : Int) = some k := by
  unfold ixN
  rw [if_pos (by omega), if_pos (by omega)]
  rfl
theorem lv_cn : Lv 1 cnD := lv_lst (by show 2 ≤ 1000; decide) fun x hx => by
  rcases List.mem_cons.mp hx with rfl | hx
  · show leafB _ = true
    decide +kernel
  · rw [List.mem_singleton] at hx
    subst hx
    rfl
theorem lv_rp {m : Nat} {p : List Nat} (h : PermOf m p) (hm : m ≤ 1000) : Lv 1 (rD p) := lv_r (by rw [h.length]; exact hm)
section
variable {P : Program} {w : World} {K : PySem.W.Frag} {mg : Str → Option Value} {base : Heap}
/-- what stands of the drawn web -/
structure RightV (K : PySem.W.Frag) (G : Hp) (v1 v2 : V) (wp : Addr) (ys : List V) (n : Nat) (gs : Gs) (T : List (Option Nat)) : Prop where
  h1 : Dp K G v1 (webD n gs)
  h2 : Dp K G v2 (tD T)
  hw : G wp = some (.lst ys)
  hy : RL (WkV K) G ys (W gs T)
theorem RightV.mono {G G' : Hp} {v1 v2 : V} {wp : Addr} {ys : List V} {n : Nat} {gs : Gs} {T : List (Option Nat)} (s : Same G G') (h : RightV K G v1 v2 wp ys n gs T) : RightV K G' v1 v2 wp ys n gs T := ⟨h.h1.mono s, h.h2.mono s, s _ _ h.hw, h.hy.mono wkm s⟩
theorem RightV.h3 {G : Hp} {v1 v2 : V} {wp : Addr} {ys : List V} {n : Nat} {gs : Gs} {T : List (Option Nat)} (h : RightV K G v1 v2 wp ys n gs T) : Dp K G (.ref wp) (.list ((W gs T).map rD)) := .lst (.of h.hw) (h.hy.dpall fun x a z => z.1)
structure RightP (n : Nat) (gs : Gs) (T : List (Option Nat)) : Prop where
  pos : 1 ≤ n
  web : WebOk n gs
  le : gs.length ≤ 5
  tk : Tk gs T
section
variable {n : Nat} {gs : Gs} {T : List (Option Nat)}
theorem RightP.tl (h : RightP n gs T) : T.length ≤ 1000 := by rw [h.tk.sound.len]; have := h.le; omega
theorem RightP.had (h : RightP n gs T) : Had (webD n gs) (tD T) n gs T := ⟨as_web h.tk.le, as_t h.tl, h.pos, h.web, h.tk⟩
theorem RightP.hadL (h : RightP n gs T) : Had (lstN 3 (webD n gs)) (tD T) n gs T := ⟨as_lweb h.tk.le, as_t h.tl, h.pos, h.web, h.tk⟩
theorem RightP.hadT (h : RightP n gs T) : Had (webD n gs) (.list (T.map oD)) n gs T := ⟨as_web h.tk.le, as_lt h.tl, h.pos, h.web, h.tk⟩
theorem RightP.ne (h : RightP n gs T) : W gs T ≠ [] := fun e => by
  obtain ⟨p, h1, h2⟩ := h.tk.ex
  have := mem_W.mpr ⟨h1, h2⟩
  rw [e] at this
  cases this
end
/-! ### _law_right(tin) -/
def W_right : List PyData → Nat → (V → Hp → Prop) → Prop := fun ds c Pp => ds = [] ∧ c = 60 ∧ Pp = fun v _ => v = .bl true
theorem sc__law_right : FnScope ["_law_tin", "_law_net_here", "_law_seats", "_law_walks", "_law_got", "_law_due", "_law_lap", "_law_k", "_law_j", "_law_other_so"] ["_law_tin"] (defScope s__law_right) := ⟨rfl, rfl, rfl, by decide +kernel, rfl, by decide +kernel, by decide +kernel⟩
end
end Lw
/-! text L10 -/
set_option Elab.async false
set_option linter.all false
set_option maxRecDepth 100000
set_option maxHeartbeats 3000000
namespace Lw
open PySem PySem.Spec PyProof.Rows L2
section
variable {K : PySem.W.Frag} {M : Mh} {σ : L2.St} {G : Hp} {ta tb te : TE} {D : Ends} {us : TS} {i j k k1 k2 : Nat} {t : Addr} {ns : List V} {g : TG} {Pp P1 P2 : V → Hp → Prop}
theorem s_setW (h : EvW M t k k1 te σ G Pp) (tin : Tin k ns) (dj : Dj G (M ++ [(t, ns)])) (q : ∀ v G2 ns', Same G G2 → Tin k1 ns' → Dj G2 (M ++ [(t, ns')]) → Pp v G2 → us D (σ.set i (some v)) (jn G2 (M ++ [(t, ns')]))) : tSeq (tAsg te (gName i)) us D σ (jn G (M ++ [(t, ns)])) := h G ns (Same.refl _) tin dj _ fun v G2 ns' s tin' dj2 hv => q v G2 ns' s tin' dj2 hv
theorem s_asgW (h : EvW M t k k1 te σ G Pp) (tin : Tin k ns) (dj : Dj G (M ++ [(t, ns)])) (q : ∀ v G2 ns', Same G G2 → Tin k1 ns' → Dj G2 (M ++ [(t, ns')]) → Pp v G2 → g v σ (jn G2 (M ++ [(t, ns')])) (us D)) : tSeq (tAsg te g) us D σ (jn G (M ++ [(t, ns)])) := h G ns (Same.refl _) tin dj _ fun v G2 ns' s tin' dj2 hv => q v G2 ns' s tin' dj2 hv
theorem s_parW (h1 : EvW M t k k1 ta σ G P1) (m1 : ∀ v G1 G2, Same G1 G2 → P1 v G1 → P1 v G2) (h2 : ∀ G2, Same G G2 → EvW M t k1 k2 tb σ G2 P2) (tin : Tin k ns) (dj : Dj G (M ++ [(t, ns)])) (q : ∀ v u G2 ns', Same G G2 → Tin k2 ns' → Dj G2 (M ++ [(t, ns')]) → P1 v G2 → P2 u G2 → us D ((σ.set i (some v)).set j (some u)) (jn G2 (M ++ [(t, ns')]))) : tSeq (tPar i j (tCons ta (tCons tb tNil))) us D σ (jn G (M ++ [(t, ns)])) := h1 G ns (Same.refl _) tin dj _ fun v G2 ns' s tin' dj2 hv => h2 G2 s G2 ns' (Same.refl _) tin' dj2 _ fun u G3 ns2 s3 tin2 dj3 hu => ⟨v, u, rfl, q v u G3 ns2 (s.trans s3) tin2 dj3 (m1 _ _ _ s3 hv) hu⟩
end
theorem s_parM {K : PySem.W.Frag} {M : Mh} {σ : L2.St} {G : Hp} {ta tb : TE} {D : Ends} {us : TS} {i j : Nat} {ds es : List PyData} (h1 : EvM K M ta σ G ds) (h2 : ∀ p xs G2, Same G G2 → EvM K ((p, xs) :: M) tb σ G2 es) (dj : Dj G M) (q : ∀ p xs r ys G2, Same G G2 → M.lookup p = none → ((p, xs) :: M : Mh).lookup r = none → Dj G2 ((r, ys) :: (p, xs) :: M) → DpAll K G2 xs ds → DpAll K G2 ys es → us D ((σ.set i (some (.ref p))).set j (some (.ref r))) (jn G2 ((r, ys) :: (p, xs) :: M))) : tSeq (tPar i j (tCons ta (tCons tb tNil))) us D σ (jn G M) := h1 G (Same.refl _) dj _ fun p xs G2 s2 hp dj2 hx => h2 p xs G2 s2 G2 (Same.refl _) dj2 _ fun r ys G3 s3 hr dj3 hy => ⟨_, _, rfl, q p xs r ys G3 (s2.trans s3) hp hr dj3 (hx.mono s3) hy⟩
theorem st_setM2 {K : PySem.W.Frag} {M : Mh} {σ : L2.St} {G : Hp} {te : TE} {D : Ends} {k : Nat} {p : Addr} {xs : List V} {ds : List PyData} (h : EvM K ((p, xs) :: M) te σ G ds) (hp : M.lookup p = none) (dj : Dj G ((p, xs) :: M)) (q : ∀ r ys G2, Same G G2 → M.lookup r = none → Dj G2 ((r, ys) :: M) → DpAll K G2 ys ds → D.nx (σ.set k (some (.ref r))) (jn G2 ((r, ys) :: M))) : tAsg te (gName k) D σ (jn G ((p, xs) :: M)) := by
  have := s_setM2 (us := fun D => D.nx) (D := D) h hp dj q
  exact this
theorem lstN3_r (p : List Nat) : lstN 3 (rD p) = lD p := by
  show PyData.list ((p.map nD).map (lstN 2)) = _
  rw [List.map_map, show (lstN 2 ∘ nD) = nD from funext fun k => lstN_nD 2 k]
  rfl
theorem lv3_r {p : List Nat} (h : p.length ≤ 1000) : Lv 3 (rD p) := (lv_r h).up.up
section
variable {P : Program} {w : World} {K : PySem.W.Frag} {mg : Str → Option Value} {base : Heap}
theorem c_law_right (T : Tx mg) (D : Dn K mg "_law_right" s__law_right ["_law_tin"]) (k__law_net : Cal P w K mg base 3 "_law_net" (spW K (W_net K))) (k__law_had : Cal P w K mg base 3 "_law_had" (spW K (W_had K))) (k_least_order : Cal P w K mg base 7 "least_order" (Pr K (R_end true))) (k_greatest_order : Cal P w K mg base 7 "greatest_order" (Pr K (R_end false))) (k__law_lists : Cal P w K mg base 4 "_law_lists" (Pr K (R_lists 3))) (k__law_take : Cal P w K mg base 1 "_law_take" (spW K W_take)) (k__law_heard : Cal P w K mg base 9 "_law_heard" (Pr K R_heard)) (k__law_step : Cal P w K mg base 1 "_law_step" (spStep K)) (k__law_walk : Cal P w K mg base 3 "_law_walk" (spW K (W_walk K))) (k__law_same : Cal P w K mg base 3 "_law_same" (Pr K (R_same 2))) : Cal P w K mg base 10 "_law_right" (spW K W_right) := by
  refine D.prW sc__law_right (fun ds c Pp h => by obtain ⟨rfl, _⟩ := h; rfl) (fun f cdv A outer s H E t vs ds c Pp hr hR => ?_)
  obtain ⟨rfl, rfl, rfl⟩ := hR
  refine ⟨_, (pss_cons (ps_set (i := 1) sc__law_right.nd rfl (Or.inl rfl) (pe_ca k__law_net hr (by decide) rfl (pa_cons (pv 0) (pa_cons pe_int (pa_cons pe_int pa_nil)))))
    (pss_cons (ps_asg (pe_ca k__law_had hr (by decide) rfl (pa_cons (pv 0) (pa_cons (pv 1) pa_nil))) (pg2 K rfl (pgs_cons (pg_name (i := 2) sc__law_right.nd rfl (Or.inl rfl)) (pgs_cons (pg_name (i := 3) sc__law_right.nd rfl (Or.inl rfl)) pgs_nil))))
    (pss_cons (ps_par (i := 4) (j := 5) rfl sc__law_right.nd rfl rfl (by decide) rfl rfl (pa_cons (pe_lst (pa_cons (pe_ca k_least_order hr (by decide) rfl (pa_cons (pe_ca k__law_lists hr (by decide) rfl (pa_cons (pv 1) pa_nil)) (pa_cons (pv 2) pa_nil))) (pa_cons (pe_ca k_greatest_order hr (by decide) rfl (pa_cons (pv 1) (pa_cons (pe_lstOf K T (pv 2)) pa_nil))) pa_nil))) (pa_cons (pe_lst (pa_cons (xL K (pv 3) pe_int) (pa_cons (xL K (pv 3) (pe_un un_neg pe_int)) pa_nil))) pa_nil)) rfl)
    (pss_cons (ps_for PassesOwn.never rfl (pi_range1 (by rfl) T.range_ (pa_cons pe_int pa_nil)) (pg_name (i := 6) sc__law_right.nd rfl (Or.inl rfl))
      (pss_cons (ps_par (i := 7) (j := 8) rfl sc__law_right.nd rfl rfl (by decide) rfl rfl (pa_cons (pe_ca k__law_take hr (by decide) rfl (pa_cons (pv 0) (pa_cons (pe_len K T (pv 3)) pa_nil))) (pa_cons (pe_ca k__law_take hr (by decide) rfl (pa_cons (pv 0) (pa_cons (pe_len K T (pv 3)) pa_nil))) pa_nil)) rfl)
      (pss_cons (ps_set (i := 4) sc__law_right.nd rfl (Or.inl rfl) (pe_op op_cat (pv 4) (pe_lst (pa_cons (pe_ca k__law_heard hr (by decide) rfl (pa_cons pe_int (pa_cons (pv 1) (pa_cons (pv 2) (pa_cons (pe_lstOf K T (xL K (pv 3) (pv 7))) (pa_cons pe_non pa_nil)))))) pa_nil))))
      (pss_cons (ps_set (i := 4) sc__law_right.nd rfl (Or.inl rfl) (pe_op op_cat (pv 4) (pe_lst (pa_cons (pe_ca k__law_heard hr (by decide) rfl (pa_cons pe_int (pa_cons (pe_ca k__law_lists hr (by decide) rfl (pa_cons (pv 1) pa_nil)) (pa_cons (pv 2) (pa_cons (xL K (pv 3) (pv 7)) (pa_cons pe_non pa_nil)))))) pa_nil))))
      (pss_cons (ps_expr (pe_bm PySem.F.plainAttrs_list PySem.F.slot_list_append PySem.F.type_list_append mt_append (pv 5) (pa_cons (pe_ifExp (pt_cmpR op_lt (pe_op op_add (pv 7) pe_int) (pe_len K T (pv 3)) (nomark _)) (xL K (pv 3) (pe_op op_add (pv 7) pe_int)) (pe_lst (pa_cons pe_str (pa_cons pe_bl pa_nil)))) pa_nil)))
      (pss_cons (ps_expr (pe_bm PySem.F.plainAttrs_list PySem.F.slot_list_append PySem.F.type_list_append mt_append (pv 5) (pa_cons (pe_ifExp (pt_cmpR op_gt (pv 7) pe_int (nomark _)) (xL K (pv 3) (pe_op op_sub (pv 7) pe_int)) (pe_lst (pa_cons pe_str (pa_cons pe_bl pa_nil)))) pa_nil)))
      (pss_cons (ps_expr (pe_bm PySem.F.plainAttrs_list PySem.F.slot_list_append PySem.F.type_list_append mt_append (pv 4) (pa_cons (pe_ca k__law_heard hr (by decide) rfl (pa_cons pe_int (pa_cons (pv 1) (pa_cons (pe_lstOf K T (pv 2)) (pa_cons (xL K (pv 3) (pv 7)) (pa_cons (pe_ca k__law_lists hr (by decide) rfl (pa_cons (xL K (pv 3) (pv 8)) pa_nil)) pa_nil)))))) pa_nil)))
      (pss_cons (ps_expr (pe_bm PySem.F.plainAttrs_list PySem.F.slot_list_append PySem.F.type_list_append mt_append (pv 5) (pa_cons (pe_ca k__law_step hr (by decide) rfl (pa_cons (xL K (pv 3) (pv 7)) (pa_cons (xL K (pv 3) (pv 8)) pa_nil))) pa_nil)))
      (pss_one (ps_if (PW.pt (pw_and (pt_niD K (hu65 hr) (xL K (pv 5) (pe_un un_neg pe_int)) (pv 3)) (pw_and1 (pt_cmpR op_ne (pv 8) (pv 7) (nomark _)))))
        (pss_one (ps_ret pe_bl))
        pss_nil))))))))))
    (pss_cons (ps_set (i := 9) sc__law_right.nd rfl (Or.inl rfl) (pe_ca k__law_walk hr (by decide) rfl (pa_cons (pv 0) (pa_cons (pe_len K T (xT K (pv 1) pe_int)) pa_nil))))
    (pss_cons (ps_if (pt_niD K (hu65 hr) (pv 9) (pv 3))
      (pss_cons (ps_set (i := 4) sc__law_right.nd rfl (Or.inl rfl) (pe_op op_cat (pv 4) (pe_lst (pa_cons (pe_ca k__law_heard hr (by decide) rfl (pa_cons pe_int (pa_cons (pv 1) (pa_cons (pv 2) (pa_cons (pv 9) (pa_cons pe_non pa_nil)))))) (pa_cons (pe_ca k__law_heard hr (by decide) rfl (pa_cons pe_int (pa_cons (pv 1) (pa_cons (pv 2) (pa_cons (xL K (pv 3) pe_int) (pa_cons (pv 9) pa_nil)))))) pa_nil)))))
      (pss_one (ps_set (i := 5) sc__law_right.nd rfl (Or.inl rfl) (pe_op op_cat (pv 5) (pe_op op_rep (pe_lst (pa_cons (pe_lst (pa_cons pe_str (pa_cons pe_bl pa_nil))) pa_nil)) pe_int)))))
      pss_nil)
    (pss_one (ps_ret (pe_ca k__law_same hr (by decide) rfl (pa_cons (pv 4) (pa_cons (pv 5) pa_nil))))))))))), fun G ns kk Q h0 tin hk hv q => ?_⟩
  cases hv
  have hlen5 : ∀ {gs : Gs} {T : List (Option Nat)}, RightP 0 gs T → True := fun _ => trivial
  refine s_setW (M := []) (k1 := kk + 13) (evw_call (K := K) (M := []) (t := t) (i := 0) (σ := [some (.ref t), none, none, none, none, none, none, none, none, none]) (c := 13) (ds := [nD 5, nD 5]) (R := W_net K) rfl (fun ns => ea_two ev_int ev_int) ⟨rfl, rfl, rfl⟩ rfl (by omega)) tin (dj_one h0) fun v1 G1 ns1 s1 tin1 dj1 hp1 => ?_
  obtain ⟨n, gs, h1, hn1, hweb, hgl⟩ := hp1
  refine s_asgW (M := []) (k1 := kk + 13 + 1) (evw_call (K := K) (M := []) (t := t) (i := 0) (σ := [some (.ref t), some v1, none, none, none, none, none, none, none, none]) (c := 1) (ds := [webD n gs]) (R := W_had K) rfl (fun ns => ea_one (ev_var rfl h1)) ⟨n, gs, rfl, hgl, rfl, rfl⟩ rfl (by omega)) tin1 dj1 fun v G2 ns2 s2 tin2 dj2 hp2 => ?_
  obtain ⟨a, v2, wp, ys, p0, rfl, hsq, hp0, h2, hw, hy⟩ := hp2
  refine g_twoR dj2 hsq ?_
  have Rt : RightP n gs (outc gs p0) := ⟨hn1, hweb, hgl, ⟨⟨p0, hp0, rfl⟩, by omega⟩⟩
  generalize outc gs p0 = T at Rt h2 hy
  have R : RightV K G2 v1 v2 wp ys n gs T := ⟨h1.mono s2, h2, hw, hy⟩
  have ht2 : G2 t = none := (dj_split (M := []) rfl dj2).2
  have wl := W_len (T := T) hgl
  have wne := Rt.ne
  have wlen : 0 < (W gs T).length := List.length_pos_iff.mpr wne
  have tl := Rt.tl
  have hh : (W gs T).head? = some ((W gs T)[0]'wlen) := by rw [List.head?_eq_getElem?, List.getElem?_eq_getElem wlen]
  have hl : (W gs T).getLast? = some ((W gs T)[(W gs T).length - 1]'(by omega)) := by rw [List.getLast?_eq_getElem?, List.getElem?_eq_getElem (by omega)]
  have pW : ∀ {k : Nat} {p : List Nat}, (W gs T)[k]? = some p → PermOf gs.length p := fun h => (mem_W.mp (List.mem_of_getElem? h)).1
  have m5 : gs.length ≤ 1000 := by omega
  -- got, due
  have eg : EvM K [(t, ns2)] (tLst (tCons (tCall (fr_ (Pr K (R_end true))) [] E0 (tCons (tCall (fr_ (Pr K (R_lists 3))) [] E0 (tCons (tVar 1) tNil)) (tCons (tVar 2) tNil))) (tCons (tCall (fr_ (Pr K (R_end false))) [] E0 (tCons (tVar 1) (tCons (tCB (rLstOf K) (tCons (tVar 2) tNil)) tNil))) tNil))) [some (.ref t), some v1, some v2, some (.ref wp), none, none, none, none, none, none] G2 [rD ((W gs T)[0]'wlen), rD ((W gs T)[(W gs T).length - 1]'(by omega))] :=
    evm_lst (ea_two (ev_call (R := R_end true) (ea_two (ev_call (R := R_lists 3) (ea_one (ev_var rfl R.h1)) ⟨_, rfl, lv_web m5, rfl⟩) (ev_var rfl R.h2)) ⟨_, _, n, gs, T, rfl, Rt.hadL, (end_least Rt.tk hh).symm⟩) (ev_call (R := R_end false) (ea_two (ev_var rfl R.h1) (EvM.toE (evm_lstOfT (ds := T.map oD) (ev_var rfl R.h2)))) ⟨_, _, n, gs, T, rfl, Rt.hadT, (end_greatest Rt.tk hl).symm⟩)) (by show 2 ≤ 100000; decide)
  have ed : ∀ gp gxs G3, Same G2 G3 → EvM K ((gp, gxs) :: [(t, ns2)]) (tLst (tCons (tOp (rIxL K) (tVar 3) (tC (.int 0))) (tCons (tOp (rIxL K) (tVar 3) (tUn (rU fun i => .int (-i)) (tC (.int 1)))) tNil))) [some (.ref t), some v1, some v2, some (.ref wp), none, none, none, none, none, none] G3 [rD ((W gs T)[0]'wlen), rD ((W gs T)[(W gs T).length - 1]'(by omega))] := fun gp gxs G3 s3 =>
    evm_lst (ea_two (ev_ixL (ds := (W gs T).map rD) (Ev.toS (ev_var rfl (R.mono s3).h3)) ev_int (atI_nat (i := 0) (map_at (List.getElem?_eq_getElem wlen)))) (ev_ixL (ds := (W gs T).map rD) (Ev.toS (ev_var rfl (R.mono s3).h3)) (ev_neg ev_int) (atI_last' (by rw [List.getLast?_map, hl]; rfl)))) (by show 2 ≤ 100000; decide)
  refine s_parM eg ed dj2 fun gp gxs dp dxs G4 s4 hgp hdp dj4 hgx hdx => ?_
  have hgt : gp ≠ t := lk_ne hgp
  have hdg : dp ≠ gp := lk_ne hdp
  have hdt : dp ≠ t := fun e => by
    have this : ((gp, gxs) :: [(t, ns2)] : Mh).lookup dp = none := hdp
    rw [lk_cons, if_neg hdg, e, lk_here] at this
    cases this
  have R := R.mono s4
  show tSeq _ _ _ [some (.ref t), some v1, some v2, some (.ref wp), some (.ref gp), some (.ref dp), none, none, none, none] (jn G4 ((dp, dxs) :: (gp, gxs) :: [(t, ns2)]))
  rw [jn_swap hdg]
  have dj5 := dj_swap hdg dj4
  have lv2 : ∀ d ∈ [rD ((W gs T)[0]'wlen), rD ((W gs T)[(W gs T).length - 1]'(by omega))], Lv 1 d := fun d hd => by
    rcases List.mem_cons.mp hd with rfl | hd
    · exact lv_rp (pW (List.getElem?_eq_getElem wlen)) m5
    · rw [List.mem_singleton] at hd
      subst hd
      exact lv_rp (pW (List.getElem?_eq_getElem (by omega))) m5
  have lkt : ∀ {gp dp : Addr} {gxs dxs : List V}, gp ≠ t → dp ≠ t → (((gp, gxs) :: (dp, dxs) :: []) : Mh).lookup t = none := fun {gp dp gxs dxs} h1 h2 => by
    rw [lk_cons, if_neg (Ne.symm h1), lk_cons, if_neg (Ne.symm h2)]
    rfl
  have hI := ei_rngD (K := K) (M := (gp, gxs) :: (dp, dxs) :: [(t, ns2)]) (σ := [some (.ref t), some v1, some v2, some (.ref wp), some (.ref gp), some (.ref dp), none, none, none, none]) (te := tC (.int 3)) (n := 3) (G := G4) ev_int (by decide)
  refine s_for hI (fun i σ1 G1 M1 => ∃ (gp dp : Addr) (gxs dxs ns' : List V) (ds : List PyData) (x6 x7 x8 : Option V), σ1 = [some (.ref t), some v1, some v2, some (.ref wp), some (.ref gp), some (.ref dp), x6, x7, x8, none] ∧ M1 = (gp, gxs) :: (dp, dxs) :: [(t, ns')] ∧ gp ≠ dp ∧ gp ≠ t ∧ dp ≠ t ∧ Tin (kk + 14 + 2 * i) ns' ∧ DpAll K G1 gxs ds ∧ DpAll K G1 dxs ds ∧ ds.length = 2 + 3 * i ∧ (∀ d ∈ ds, Lv 1 d)) dj5 (fun G5 s5 dj5 => ⟨gp, dp, gxs, dxs, ns2, _, none, none, none, rfl, rfl, Ne.symm hdg, hgt, hdt, tin2, hgx.mono s5, hdx.mono s5, rfl, lv2⟩) ?_ ?_ ?_
  · rintro i σ1 G5 G6 M3 s6 ⟨gp, dp, gxs, dxs, ns', ds, x6, x7, x8, e1, e2, e3, e4, e5, e6, e7, e8, e9⟩
    exact ⟨gp, dp, gxs, dxs, ns', ds, x6, x7, x8, e1, e2, e3, e4, e5, e6, e7.mono s6, e8.mono s6, e9⟩
  · rintro G5 s5 i d σ1 G6 M3 x hd s6 dj6 ⟨gp, dp, gxs, dxs, ns', ds, x6, x7, x8, rfl, rfl, hgd, hgt, hdt, tin', hgx, hdx, hdl, hdv⟩ hx
    have hi : i < 3 := by
      have := (List.getElem?_eq_some_iff.mp hd).1
      rw [List.length_map, List.length_range] at this
      exact this
    have R := R.mono (s5.trans s6)
    have take : ∀ (kx : Nat) (x6 x7 x8 : Option V) (G7 : Hp), Same G6 G7 → kx + 1 ≤ 100000 → EvW ((gp, gxs) :: (dp, dxs) :: []) t kx (kx + 1) (tCall (fr_ (spW K W_take)) [] E0 (tCons (tVar 0) (tCons (tCB (rLenQ K) (tCons (tVar 3) tNil)) tNil))) [some (.ref t), some v1, some v2, some (.ref wp), some (.ref gp), some (.ref dp), x6, x7, x8, none] G7 (fun v _ => ∃ r : Nat, v = .int (r : Nat) ∧ r < (W gs T).length) := fun kx x6 x7 x8 G7 s7 hkx => evw_call (K := K) (t := t) (i := 0) (c := 1) (ds := [nD (W gs T).length]) (R := W_take) rfl (fun ns => ea_one (by
      have := ev_lenL (K := K) (M := ((gp, gxs) :: (dp, dxs) :: []) ++ [(t, ns)]) (ta := tVar 3) (σ := [some (.ref t), some v1, some v2, some (.ref wp), some (.ref gp), some (.ref dp), x6, x7, x8, none]) (G := G7) (Ev.toS (ev_var rfl (R.mono s7).h3))
      rw [List.length_map] at this
      exact this)) ⟨_, rfl, wlen, by omega, rfl, rfl⟩ (lkt hgt hdt) hkx
    refine s_parW (M := (gp, gxs) :: (dp, dxs) :: []) (take (kk + 14 + 2 * i) _ _ _ G6 (Same.refl _) (by omega)) (fun _ _ _ _ h => h) (fun G7 s7 => take (kk + 14 + 2 * i + 1) _ _ _ G7 s7 (by omega)) tin' dj6 fun vk vj G7 ns7 s7 tin7 dj7 hvk hvj => ?_
    obtain ⟨k, rfl, hk⟩ := hvk
    obtain ⟨j, rfl, hj⟩ := hvj
    have R := R.mono s7
    have hgx := hgx.mono s7
    have hdx := hdx.mono s7
    have hWk : (W gs T)[k]? = some ((W gs T)[k]) := List.getElem?_eq_getElem hk
    have hWj : (W gs T)[j]? = some ((W gs T)[j]) := List.getElem?_eq_getElem hj
    generalize hpk : (W gs T)[k] = p at hWk
    generalize hpj : (W gs T)[j] = pj at hWj
    have Pk := pW hWk
    have Pj := pW hWj
    have plk := Pk.length
    have plj := Pj.length
    have ix : ∀ {M : Mh} {G8 : Hp} {x6 x9 : Option V} {gp dp : Addr}, RightV K G8 v1 v2 wp ys n gs T → Ev K M (tOp (rIxL K) (tVar 3) (tVar 7)) [some (.ref t), some v1, some v2, some (.ref wp), some (.ref gp), some (.ref dp), x6, some (.int ((k : Nat) : Int)), some (.int ((j : Nat) : Int)), x9] G8 (rD p) := fun {M G8 x6 x9 gp dp} R => ev_ixL (ds := (W gs T).map rD) (Ev.toS (ev_var rfl R.h3)) (ev_var rfl (.int _)) (atI_nat (map_at hWk))
    have ij : ∀ {M : Mh} {G8 : Hp} {x6 x9 : Option V} {gp dp : Addr}, RightV K G8 v1 v2 wp ys n gs T → Ev K M (tOp (rIxL K) (tVar 3) (tVar 8)) [some (.ref t), some v1, some v2, some (.ref wp), some (.ref gp), some (.ref dp), x6, some (.int ((k : Nat) : Int)), some (.int ((j : Nat) : Int)), x9] G8 (rD pj) := fun {M G8 x6 x9 gp dp} R => ev_ixL (ds := (W gs T).map rD) (Ev.toS (ev_var rfl R.h3)) (ev_var rfl (.int _)) (atI_nat (map_at hWj))
    -- got + [next]
    have f0 : R_heard [nD 0, webD n gs, tD T, lD p, .none] ((((W gs T)[k + 1]?).map rD).getD cnD) := ⟨0, _, _, _, _, _, rfl, .inr (.inl ⟨rfl, _, _, _, n, gs, T, p, rfl, Rt.had, as_lr (by omega), Pk, rfl⟩), by rw [near_next Rt.tk hWk]⟩
    have f1 : R_heard [nD 1, lstN 3 (webD n gs), tD T, rD p, .none] (((if k = 0 then none else (W gs T)[k - 1]?).map rD).getD cnD) := ⟨1, _, _, _, _, _, rfl, .inr (.inr ⟨rfl, _, _, _, n, gs, T, p, rfl, Rt.hadL, as_r (by omega), Pk, rfl⟩), by rw [near_ahead Rt.tk hWk]⟩
    have f2 : R_heard [nD 2, webD n gs, .list (T.map oD), rD p, lD pj] (stD p pj) := ⟨2, _, _, _, _, _, rfl, .inl ⟨rfl, _, _, _, _, n, gs, T, p, pj, rfl, Rt.hadT, as_r (by omega), as_lr (by omega), Pk, Pj, rfl⟩, by
      unfold stepO
      rw [if_pos ⟨(mem_W.mp (List.mem_of_getElem? hWk)).2, (mem_W.mp (List.mem_of_getElem? hWj)).2⟩]
      rfl⟩
    have e1 : Lv 1 ((((W gs T)[k + 1]?).map rD).getD cnD) := by
      cases e : (W gs T)[k + 1]? with
      | none => exact lv_cn
      | some z => exact lv_rp (pW e) m5
    have e2 : Lv 1 (((if k = 0 then none else (W gs T)[k - 1]?).map rD).getD cnD) := by
      by_cases k0 : k = 0
      · rw [if_pos k0]
        exact lv_cn
      · rw [if_neg k0]
        cases e : (W gs T)[k - 1]? with
        | none => exact lv_cn
        | some z => exact lv_rp (pW e) m5
    generalize hD1 : (((W gs T)[k + 1]?).map rD).getD cnD = D1 at f0 e1
    generalize hD2 : ((if k = 0 then none else (W gs T)[k - 1]?).map rD).getD cnD = D2 at f1 e2
    have ec : ∀ {M : Mh} {σ : L2.St} {G8 : Hp}, Ev K M (tLst (tCons (tC (.str "can not")) (tCons (tC (.bl true)) tNil))) σ G8 cnD := fun {M σ G8} => EvM.toE (evm_lst (ea_two ev_str ev_bl) (by show 2 ≤ 100000; decide))
    have lkg : ∀ {gp : Addr}, gp ≠ dp → gp ≠ t → ((dp, dxs) :: [(t, ns7)] : Mh).lookup gp = none := fun {gp} h1 h2 => by
      rw [lk_cons, if_neg h1, lk_cons, if_neg h2]
      rfl
    have unl : ∀ {gp : Addr} {dxs : List V}, ((dp, dxs) :: [(t, ns7)] : Mh).lookup gp = none → gp ≠ dp ∧ gp ≠ t := fun {gp dxs} h => by
      have h1 := lk_ne h
      rw [lk_cons, if_neg h1] at h
      exact ⟨h1, lk_ne h⟩
    show tSeq _ _ _ [some (.ref t), some v1, some v2, some (.ref wp), some (.ref gp), some (.ref dp), some x, some (.int ((k : Nat) : Int)), some (.int ((j : Nat) : Int)), none] (jn G7 ((gp, gxs) :: (dp, dxs) :: [(t, ns7)]))
    refine s_setM2 (K := K) (ds := ds ++ [D1]) (evm_cat (evl_var rfl lk_here hgx) (EvM.toL (evm_lst (ea_one (ev_call (R := R_heard) (ea_cons (d := nD 0) ev_int (ea_cons (ev_var rfl R.h1) (ea_cons (ev_var rfl R.h2) (ea_two (EvM.toE (evm_lstOfT (ds := p.map nD) (ix R))) ev_non)))) f0)) (by show 1 ≤ 100000; decide))) (by show ds.length + 1 ≤ 100000; omega)) (lkg hgd hgt) dj7 fun gp1 gxs1 G8 s8 hg1 dj8 hgx1 => ?_
    obtain ⟨hgd1, hgt1⟩ := unl hg1
    have R := R.mono s8
    have hdx := hdx.mono s8
    refine s_setM2 (K := K) (ds := ds ++ [D1] ++ [D2]) (evm_cat (evl_var rfl lk_here hgx1) (EvM.toL (evm_lst (ea_one (ev_call (R := R_heard) (ea_cons (d := nD 1) ev_int (ea_cons (ev_call (R := R_lists 3) (ea_one (ev_var rfl R.h1)) ⟨_, rfl, lv_web m5, rfl⟩) (ea_cons (ev_var rfl R.h2) (ea_two (ix R) ev_non)))) f1)) (by show 1 ≤ 100000; decide))) (by rw [List.length_append]; show ds.length + 1 + 1 ≤ 100000; omega)) (lkg hgd1 hgt1) dj8 fun gp2 gxs2 G9 s9 hg2 dj9 hgx2 => ?_
    obtain ⟨hgd2, hgt2⟩ := unl hg2
    have R := R.mono s9
    have hdx := hdx.mono s9
    show tSeq _ _ _ [some (.ref t), some v1, some v2, some (.ref wp), some (.ref gp2), some (.ref dp), some x, some (.int ((k : Nat) : Int)), some (.int ((j : Nat) : Int)), none] (jn G9 ((gp2, gxs2) :: (dp, dxs) :: [(t, ns7)]))
    rw [jn_swap hgd2]
    have inc : ∀ {M : Mh} {G8 : Hp} {gp dp : Addr}, Ev K M (tOp (rI0 fun i j => V.int (i + j)) (tVar 7) (tC (.int 1))) [some (.ref t), some v1, some v2, some (.ref wp), some (.ref gp), some (.ref dp), some x, some (.int ((k : Nat) : Int)), some (.int ((j : Nat) : Int)), none] G8 (nD (k + 1)) := fun {_ _ _ _} => ev_I0 (ev_var rfl (.int _)) ev_int (fun _ => by show Dp _ _ (.int (((k : Nat) : Int) + 1)) (.int ((k + 1 : Nat) : Int)); rw [show ((k + 1 : Nat) : Int) = ((k : Nat) : Int) + 1 by omega]; exact .int _)
    have dxl := hdx.len
    -- due
    refine s_append (K := K) (d := D1) rfl (ev_if (b := decide (k + 1 < (W gs T).length)) (eb_test (K := K) (ev_I0 (i := ((k + 1 : Nat) : Int)) (j := (((W gs T).map rD).length : Nat)) inc (ev_lenL (Ev.toS (ev_var rfl R.h3))) (fun _ => by
        rw [List.length_map, show decide (((k + 1 : Nat) : Int) < (((W gs T).length : Nat) : Int)) = decide (k + 1 < (W gs T).length) from decide_eq_decide.mpr (by omega)]
        exact .bl _))) (fun b => ?_) (fun b => ?_)) (by omega) (dj_swap hgd2 dj9) fun d1 G10 s10 dj10 hd1 => ?_
    · rw [decide_eq_true_eq] at b
      have e := List.getElem?_eq_getElem b
      rw [← hD1, e]
      exact ev_ixL (ds := (W gs T).map rD) (Ev.toS (ev_var rfl R.h3)) inc (atI_nat (map_at e))
    · rw [decide_eq_false_iff_not] at b
      rw [← hD1, List.getElem?_eq_none (by omega)]
      exact ec
    have R := R.mono s10
    have hdx := (hdx.mono s10).app (.one hd1)
    have hgx2 := hgx2.mono s10
    refine s_append (K := K) (d := D2) rfl (ev_if (b := decide (0 < k)) (eb_test (K := K) (ev_I0 (i := ((k : Nat) : Int)) (j := 0) (ev_var rfl (.int _)) ev_int (fun _ => by
        rw [show decide (((k : Nat) : Int) > 0) = decide (0 < k) from decide_eq_decide.mpr (by omega)]
        exact .bl _))) (fun b => ?_) (fun b => ?_)) (by rw [List.length_append]; show dxs.length + 1 ≤ _; omega) dj10 fun d2 G11 s11 dj11 hd2 => ?_
    · rw [decide_eq_true_eq] at b
      have e := List.getElem?_eq_getElem (show k - 1 < (W gs T).length by omega)
      rw [← hD2, if_neg (by omega), e]
      refine ev_ixL (z := ((k - 1 : Nat) : Int)) (ds := (W gs T).map rD) (Ev.toS (ev_var rfl R.h3)) (ev_I0 (i := ((k : Nat) : Int)) (j := 1) (ev_var rfl (.int _)) ev_int (fun _ => ?_)) (atI_nat (map_at e))
      rw [show ((k - 1 : Nat) : Int) = ((k : Nat) : Int) - 1 by omega]
      exact .int _
    · rw [decide_eq_false_iff_not] at b
      rw [← hD2, if_pos (by omega)]
      exact ec
    have R := R.mono s11
    have hdx := (hdx.mono s11).app (.one hd2)
    have hgx2 := hgx2.mono s11
    show tSeq _ _ _ _ (jn G11 ((dp, dxs ++ [d1] ++ [d2]) :: (gp2, gxs2) :: [(t, ns7)]))
    rw [jn_swap (Ne.symm hgd2)]
    have gxl := hgx2.len
    rw [List.length_append, List.length_append] at gxl
    have gxl : gxs2.length = ds.length + 1 + 1 := gxl
    refine s_append (K := K) (d := stD p pj) rfl (ev_call (R := R_heard) (ea_cons (d := nD 2) ev_int (ea_cons (ev_var rfl R.h1) (ea_cons (EvM.toE (evm_lstOfT (ds := T.map oD) (ev_var rfl R.h2))) (ea_two (ix R) (ev_call (R := R_lists 3) (ea_one (ij R)) ⟨_, rfl, lv3_r (by omega), (lstN3_r pj).symm⟩))))) f2) (by omega) (dj_swap (Ne.symm hgd2) dj11) fun g3 G12 s12 dj12 hg3 => ?_
    have R := R.mono s12
    have hdx := hdx.mono s12
    have hgx2 := (hgx2.mono s12).app (.one hg3)
    rw [jn_swap hgd2]
    refine s_append (K := K) (d := stD p pj) rfl (ev_step (m := gs.length) (q := pj) (Ev.toR (ix R)) (fun G13 s13 => evr_ixG (R := WkV K) wkm rfl (s13 _ _ R.hw) (R.hy.mono wkm s13) (fun G14 s14 => ev_var rfl (.int _)) (ixN_nat hj) hWj) Pk Pj m5) (by have := hdx.len; rw [List.length_append, List.length_append] at this; rw [List.length_append, List.length_append]; show dxs.length + 1 + 1 ≤ _; omega) (dj_swap hgd2 dj12) fun d3 G13 s13 dj13 hd3 => ?_
    have R := R.mono s13
    have hdx := (hdx.mono s13).app (.one hd3)
    have hgx2 := hgx2.mono s13
    have lvst : Lv 1 (stD p pj) := by
      unfold stD
      cases e : stepk pj p with
      | none => exact lv_cn
      | some kk =>
        refine lv_r ?_
        unfold swp
        rw [List.length_append, List.length_append, List.length_take, List.length_drop]
        show min kk p.length + 2 + (p.length - (kk + 2)) ≤ 1000
        omega
    have hsh : SeqAt.shaped (.list ((W gs T).map rD)) = true := Lv.shaped (n := 2) (lv_lst (by rw [List.length_map]; omega) fun z hz => by
      obtain ⟨a, ha, rfl⟩ := List.mem_map.mp hz
      exact lv_rp (mem_W.mp ha).1 m5)
    refine st_if (eb_and (eb_test (ev_notInD (K := K) (d := stD p pj) (ds := (W gs T).map rD) (Ev.toJ (ev_ixL (EvL.toS (evl_var rfl lk_here hdx)) (ev_neg ev_int) (last_snoc _ _))) (Ev.toS (ev_var rfl R.h3)) lvst.shaped hsh)) fun _ => eb_test (K := K) (ev_neI (ev_var rfl (.int ((j : Nat) : Int))) (ev_var rfl (.int ((k : Nat) : Int))))) dj13 (fun b G14 s14 dj14 => ?_) (fun b G14 s14 dj14 => ?_)
    · exfalso
      rw [Bool.and_eq_true, nat_dec] at b
      cases e : stepk pj p with
      | none =>
        have epp := stepk_none Pk Pj e
        rw [epp] at hWk
        have hjk : j = k := by
          obtain ⟨h1, h2⟩ := List.getElem?_eq_some_iff.mp hWk
          obtain ⟨h3, h4⟩ := List.getElem?_eq_some_iff.mp hWj
          exact (List.getElem_inj (W_nodup gs T)).mp (h4.trans h2.symm)
        have b2 := b.2
        rw [decide_eq_true hjk] at b2
        cases b2
      | some kk =>
        have hin := step_W (List.mem_of_getElem? hWk) (List.mem_of_getElem? hWj) e
        have b1 := b.1
        have : ((W gs T).map rD).any (fun z => PyData.eqv z (stD p pj)) = true := by
          rw [List.any_eq_true]
          refine ⟨rD (swp p kk), List.mem_map.mpr ⟨_, hin, rfl⟩, ?_⟩
          unfold stD
          rw [e]
          show PyData.eqv (rD (swp p kk)) (rD (swp p kk)) = true
          rw [eqv_rD]
          simp
        rw [this] at b1
        cases b1
    · show tNext _ _ (jn G14 ((dp, dxs ++ [d1] ++ [d2] ++ [d3]) :: (gp2, gxs2 ++ [g3]) :: [(t, ns7)]))
      rw [jn_swap (Ne.symm hgd2)]
      refine nt_of rfl (s6.trans (s7.trans (s8.trans (s9.trans (s10.trans (s11.trans (s12.trans (s13.trans s14)))))))) (dj_swap (Ne.symm hgd2) dj14) ⟨gp2, dp, gxs2 ++ [g3], dxs ++ [d1] ++ [d2] ++ [d3], ns7, ds ++ [D1] ++ [D2] ++ [stD p pj], _, _, _, rfl, rfl, hgd2, hgt2, hdt, tin7.up (by omega), hgx2.mono s14, hdx.mono s14, ?_, ?_⟩
      · rw [List.length_append, List.length_append, List.length_append]
        show ds.length + 1 + 1 + 1 = _
        omega
      · intro d hd
        rcases List.mem_append.mp hd with hd | hd
        · rcases List.mem_append.mp hd with hd | hd
          · rcases List.mem_append.mp hd with hd | hd
            · exact hdv d hd
            · rw [List.mem_singleton] at hd
              rw [hd]
              exact e1
          · rw [List.mem_singleton] at hd
            rw [hd]
            exact e2
        · rw [List.mem_singleton] at hd
          rw [hd]
          exact lvst
  · rintro σ1 G5 M3 s5 dj5 ⟨gp, dp, gxs, dxs, ns', ds, x6, x7, x8, rfl, rfl, hgd, hgt, hdt, tin', hgx, hdx, hdl, hdv⟩
    rw [List.length_map, List.length_range] at tin' hdl
    have R := R.mono s5
    have ec : ∀ {M : Mh} {σ : L2.St} {G8 : Hp}, Ev K M (tLst (tCons (tC (.str "can not")) (tCons (tC (.bl true)) tNil))) σ G8 cnD := fun {M σ G8} => EvM.toE (evm_lst (ea_two ev_str ev_bl) (by show 2 ≤ 100000; decide))
    refine s_setW (M := (gp, gxs) :: (dp, dxs) :: []) (k := kk + 14 + 2 * 3) (k1 := kk + 14 + 2 * 3 + gs.length) (evw_call (K := K) (t := t) (i := 0) (σ := [some (.ref t), some v1, some v2, some (.ref wp), some (.ref gp), some (.ref dp), x6, x7, x8, none]) (c := gs.length) (ds := [nD gs.length]) (R := W_walk K) rfl (fun ns => ea_one (by
      have := ev_lenT (K := K) (M := ((gp, gxs) :: (dp, dxs) :: []) ++ [(t, ns)]) (σ := [some (.ref t), some v1, some v2, some (.ref wp), some (.ref gp), some (.ref dp), x6, x7, x8, none]) (G := G5) (ta := tOp (rIxT K) (tVar 1) (tC (.int 1))) (ds := gs.map gD) (ev_ixT (d := .tuple (gs.map gD)) (ev_var rfl R.h1) ev_int rfl)
      rw [List.length_map] at this
      exact this)) ⟨rfl, m5, rfl⟩ (lkt hgt hdt) (by omega)) tin' dj5 fun v9 G6 ns6 s6 tin6 dj6 hp9 => ?_
    obtain ⟨p, h9, hp⟩ := hp9
    have R := R.mono s6
    have hgx := hgx.mono s6
    have hdx := hdx.mono s6
    have plp := hp.length
    have hsh : SeqAt.shaped (.list ((W gs T).map rD)) = true := Lv.shaped (n := 2) (lv_lst (by rw [List.length_map]; omega) fun z hz => by
      obtain ⟨a, ha, rfl⟩ := List.mem_map.mp hz
      exact lv_rp (mem_W.mp ha).1 m5)
    show tSeq _ _ _ [some (.ref t), some v1, some v2, some (.ref wp), some (.ref gp), some (.ref dp), x6, x7, x8, some v9] (jn G6 ((gp, gxs) :: (dp, dxs) :: [(t, ns6)]))
    refine s_join (fun σ' H' => ∃ (gp dp : Addr) (gxs dxs : List V) (ds : List PyData) (G7 : Hp), σ' = [some (.ref t), some v1, some v2, some (.ref wp), some (.ref gp), some (.ref dp), x6, x7, x8, some v9] ∧ H' = jn G7 ((gp, gxs) :: (dp, dxs) :: [(t, ns6)]) ∧ gp ≠ dp ∧ gp ≠ t ∧ dp ≠ t ∧ Same G6 G7 ∧ Dj G7 ((gp, gxs) :: (dp, dxs) :: [(t, ns6)]) ∧ DpAll K G7 gxs ds ∧ DpAll K G7 dxs ds ∧ ds.length ≤ 20 ∧ (∀ d ∈ ds, Lv 1 d)) ?_ (fun Nx hNx => ?_)
    · rintro σ' H' ⟨gp, dp, gxs, dxs, ds, G7, rfl, rfl, hgd, hgt, hdt, s7, dj7, hgx, hdx, hdl, hdv⟩
      have l1 : ((dp, dxs) :: [(t, ns6)] : Mh).lookup gp = none := by
        rw [lk_cons, if_neg hgd, lk_cons, if_neg hgt]
        rfl
      have l2 : ([(t, ns6)] : Mh).lookup dp = none := by
        rw [lk_cons, if_neg hdt]
        rfl
      have n3 := dj_here dj7
      have dj8 := dj_give (o := .lst gxs) dj7 l1
      have n4 := dj_here dj8
      have dj9 := dj_give (o := .lst dxs) dj8 l2
      rw [jn_give l1, jn_give l2]
      have sg := (same_new (o := .lst gxs) n3).trans (same_new (o := .lst dxs) n4)
      have hg4 : Dp K (upd (upd G7 gp (.lst gxs)) dp (.lst dxs)) (.ref gp) (.list ds) := .lst (.of (same_new n4 _ _ upd_same)) (hgx.mono sg)
      have hd4 : Dp K (upd (upd G7 gp (.lst gxs)) dp (.lst dxs)) (.ref dp) (.list ds) := .lst (.of upd_same) (hdx.mono sg)
      have ev := ev_call (K := K) (M := [(t, ns6)]) (σ := [some (.ref t), some v1, some v2, some (.ref wp), some (.ref gp), some (.ref dp), x6, x7, x8, some v9]) (R := R_same 2) (E := E0) (d := .bool true) (ta := tCons (tVar 4) (tCons (tVar 5) tNil)) (ea_two (ev_var rfl hg4) (ev_var rfl hd4)) ⟨_, rfl, lv_lst (by omega) hdv, rfl⟩
      refine ev _ (Same.refl _) dj9 _ fun v G8 s8 dj10 hv => ?_
      cases hv
      exact q _ G8 ns6 (s1.trans (s2.trans (s4.trans (s5.trans (s6.trans (s7.trans (sg.trans s8))))))) (dj_split (M := []) rfl dj10).2 (tin6.up (by omega)) rfl
    · have hnp : SeqAt.shaped (rD p) = true := sh_r (by omega)
      have hb := eb_test (ev_notInD (K := K) (M := (gp, gxs) :: (dp, dxs) :: [(t, ns6)]) (σ := [some (.ref t), some v1, some v2, some (.ref wp), some (.ref gp), some (.ref dp), x6, x7, x8, some v9]) (G := G6) (ta := tVar 9) (tb := tVar 3) (d := rD p) (ds := (W gs T).map rD) (Ev.toJ (ev_var rfl h9)) (Ev.toS (ev_var rfl R.h3)) hnp hsh)
      refine st_if hb dj6 (fun b G7 s7 dj7 => ?_) (fun b G7 s7 dj7 => ?_)
      · have hno : outc gs p ≠ T := fun e => by
          have hin : p ∈ W gs T := mem_W.mpr ⟨hp, e⟩
          have : ((W gs T).map rD).any (fun z => PyData.eqv z (rD p)) = true := by
            rw [List.any_eq_true]
            refine ⟨rD p, List.mem_map.mpr ⟨p, hin, rfl⟩, ?_⟩
            rw [eqv_rD]
            simp
          rw [this] at b
          cases b
        have R := R.mono s7
        have hgx := hgx.mono s7
        have hdx := hdx.mono s7
        have h9 := h9.mono s7
        have h00 := List.getElem?_eq_getElem wlen
        have P0 := pW h00
        have f0 : R_heard [nD 0, webD n gs, tD T, rD p, .none] cnD := ⟨0, _, _, _, _, none, rfl, .inr (.inl ⟨rfl, _, _, _, n, gs, T, p, rfl, Rt.had, as_r (by omega), hp, (near_out hno).symm⟩), rfl⟩
        have f2 : R_heard [nD 2, webD n gs, tD T, rD ((W gs T)[0]'wlen), rD p] cnD := ⟨2, _, _, _, _, none, rfl, .inl ⟨rfl, _, _, _, _, n, gs, T, _, p, rfl, Rt.had, as_r (by rw [P0.length]; omega), as_r (by omega), P0, hp, by
          unfold stepO
          rw [if_neg (fun z => hno z.2)]⟩, rfl⟩
        have l1 : ((dp, dxs) :: [(t, ns6)] : Mh).lookup gp = none := by
          rw [lk_cons, if_neg hgd, lk_cons, if_neg hgt]
          rfl
        refine s_setM2 (K := K) (ds := ds ++ [cnD, cnD]) (evm_cat (evl_var rfl lk_here hgx) (EvM.toL (evm_lst (ea_two (ev_call (R := R_heard) (ea_cons (d := nD 0) ev_int (ea_cons (ev_var rfl R.h1) (ea_cons (ev_var rfl R.h2) (ea_two (ev_var rfl h9) ev_non)))) f0) (ev_call (R := R_heard) (ea_cons (d := nD 2) ev_int (ea_cons (ev_var rfl R.h1) (ea_cons (ev_var rfl R.h2) (ea_two (ev_ixL (ds := (W gs T).map rD) (Ev.toS (ev_var rfl R.h3)) ev_int (atI_nat (i := 0) (map_at h00))) (ev_var rfl h9))))) f2)) (by show 2 ≤ 100000; decide))) (by show ds.length + 2 ≤ 100000; omega)) l1 dj7 fun gp1 gxs1 G8 s8 hg1 dj8 hgx1 => ?_
        have hgd1 : gp1 ≠ dp := lk_ne hg1
        have hgt1 : gp1 ≠ t := by
          rw [lk_cons, if_neg hgd1] at hg1
          exact lk_ne hg1
        have hdx := hdx.mono s8
        show tAsg _ _ _ [some (.ref t), some v1, some v2, some (.ref wp), some (.ref gp1), some (.ref dp), x6, x7, x8, some v9] (jn G8 ((gp1, gxs1) :: (dp, dxs) :: [(t, ns6)]))
        rw [jn_swap hgd1]
        have l3 : ((gp1, gxs1) :: [(t, ns6)] : Mh).lookup dp = none := by
          rw [lk_cons, if_neg (Ne.symm hgd1), lk_cons, if_neg hdt]
          rfl
        refine st_setM2 (K := K) (ds := ds ++ List.replicate 2 cnD) (evm_cat (evl_var rfl lk_here hdx) (EvM.toL (evm_rep (evm_lst (ea_one ec) (by show 1 ≤ 100000; decide)) (fun _ _ _ _ => ev_int) (by decide))) (by rw [List.length_replicate]; omega)) l3 (dj_swap hgd1 dj8) fun dp1 dxs1 G9 s9 hd1 dj9 hdx1 => ?_
        have hdg1 : dp1 ≠ gp1 := lk_ne hd1
        have hdt1 : dp1 ≠ t := by
          rw [lk_cons, if_neg hdg1] at hd1
          exact lk_ne hd1
        rw [jn_swap hdg1]
        exact hNx _ _ ⟨gp1, dp1, gxs1, dxs1, ds ++ [cnD, cnD], G9, rfl, rfl, Ne.symm hdg1, hgt1, hdt1, s7.trans (s8.trans s9), dj_swap hdg1 dj9, hgx1.mono s9, hdx1, by rw [List.length_append]; show ds.length + 2 ≤ 20; omega, fun d hd => by
          rcases List.mem_append.mp hd with hd | hd
          · exact hdv d hd
          · have : d = cnD := by simpa using hd
            rw [this]
            exact lv_cn⟩
      · exact hNx _ _ ⟨gp, dp, gxs, dxs, ds, G7, rfl, rfl, hgd, hgt, hdt, s7, dj7, hgx.mono s7, hdx.mono s7, by omega, hdv⟩
end
end Lw
/-! text L11 -/
set_option Elab.async false
set_option linter.all false
set_option maxRecDepth 100000
set_option maxHeartbeats 3000000
namespace Lw
open PySem PySem.Spec PyProof.Rows L2
section
variable {P : Program} {w : World} {K : PySem.W.Frag} {mg : Str → Option Value} {base : Heap}
/-! ### law(script) -/
def R_law : List PyData → PyData → Prop := fun ds d => ∃ ns : List Int, ds = [.list (ns.map PyData.int)] ∧ ns.length ≤ 90000 ∧ d = .bool true
theorem sc_law : FnScope ["_law_script"] ["_law_script"] (defScope s_law) := ⟨rfl, rfl, rfl, by decide +kernel, rfl, by decide +kernel, by decide +kernel⟩
theorem c_law (D : Dn K mg "law" s_law ["_law_script"]) (k__law_by_hand_right : Cal P w K mg base 10 "_law_by_hand_right" (Pr K R_by_hand)) (k__law_right : Cal P w K mg base 10 "_law_right" (spW K W_right)) (k__law_box : Cal P w K mg base 1 "_law_box" (spBox K)) (k__law_cells : Cal P w K mg base 1 "_law_cells" (spCells K)) : Cal P w K mg base 11 "law" (Pr K R_law) := by
  refine D.pr sc_law (fun ds d h => by obtain ⟨_, rfl, _⟩ := h; rfl) (fun f cdv A outer s H E vs ds d hr h hv => ?_)
  obtain ⟨ns, rfl, hl, rfl⟩ := h
  obtain ⟨v0, rfl, h0⟩ := dp1 hv
  refine ⟨_, (pss_one (ps_ret (pe_and (pe_ca0 k__law_by_hand_right hr (by decide) rfl) (pe_one (pe_ca k__law_right hr (by decide) rfl (pa_cons (pe_ca k__law_box hr (by decide) rfl (pa_cons (pe_ca k__law_cells hr (by decide) rfl (pa_cons (pv 0) (pa_cons pe_int pa_nil))) (pa_cons pe_int pa_nil))) pa_nil)))))), fun Q q => ?_⟩
  have e1 : Ev K [] (tCall (fr_ (Pr K R_by_hand)) [] E0 tNil) [some v0] H (.bool true) := ev_call ea_nil ⟨rfl, rfl⟩
  unfold tRet tAndV
  refine e1 H (Same.refl _) (dj_nil _) _ fun v G2 s2 dj2 hv => ?_
  cases hv
  refine ⟨true, rfl, iteT ?_⟩
  refine ⟨v0, rfl, G2, [], rfl, dj2, v0, ns, rfl, h0.mono s2, hl, fun v G3 z s3 hd dj3 => ?_⟩
  refine ⟨G3, [], rfl, dj3, v, z, rfl, hd, fun t G4 ns4 s4 h4 tin dj4 => ?_⟩
  refine ⟨jn G4 [(t, ns4)], [], rfl, dj_nil _, t, ns4, [], 0, 60, G4, _, [], rfl, rfl, h4, tin, by decide, .nil, ⟨rfl, rfl, rfl⟩, fun v G5 ns5 s5 h5 tin5 hp dj5 => ?_⟩
  have hp : v = .bl true := hp
  subst hp
  exact q _ _ (s2.trans (s3.trans (s4.trans (s5.trans (same_jn (dj_one h5)))))) (.bl true)
end
/-! ### the head: facts of the defs, and what isinstance asks of the error's class -/
def exB (K : PySem.W.Frag) : Bool :=
  He.eqO (PySem.W.findIn K (.ref (He.ga K "CanNot")) "__getattribute__") (some (some (.builtin "BaseException.__getattribute__"))) &&
  (He.eqO (PySem.W.findIn K (.ref (He.ga K "CanNot")) "__getattr__") (some none) &&
  (PySem.W.hasDictIn K (He.ga K "CanNot") &&
  (He.eqO (PySem.W.findIn K (.ref (He.ga K "CanNot")) "__class__") (some (some (.builtin "object.__class__"))) &&
  (decide (PySem.W.mroIn K (He.ga K "CanNot") (.type "object") = some true) &&
  decide (PySem.W.kitOne K (.ref (He.ga K "CanNot")) (.type "ValueError") = some true)))))
def obX (n : Nat) (g : Addr → Option Obj) : He.AlD × Bool := (He.obsDG n fa fn g, exB (He.frG g (He.asD g n)))
def hkX : PySem.W.Hook where
  α := He.AlD × Bool
  obs := fun s => obX 4 s.heap.get?
  val := fun _ => (He.valD fn, true)
  says := fun _ h => ∃ K : PySem.W.Frag, K.In h ∧ He.SaysD fa fn K ∧ exB K = true
  of := fun _ _ e => ⟨_, He.frG_in, congrArg Prod.fst e, congrArg Prod.snd e⟩
  keeps := fun _ _ _ ⟨K, hK, c⟩ k => ⟨K, PySem.W.Frag.In.keeps hK k, c⟩
def ob2 (s : PySem.W.SharedT) : He.AlD × Bool := obX 4 (HandSHeadRun.getT s)
theorem ob2_eq (s : PySem.W.SharedT) : ob2 s = hkX.obs s.abs := by
  have e : HandSHeadRun.getT s = s.abs.heap.get? := funext (HandSHeadRun.getT_eq s)
  show obX 4 _ = obX 4 _
  rw [e]
theorem run2 (w : World) : HandSHeadRun.RunEq R (PySem.W.view R.prog [62]) hkX ob2 3000 loose w := by
  intro os
  kernel_rfl
end Lw
/-! text L12 -/
set_option Elab.async false
set_option linter.all false
set_option maxRecDepth 100000
set_option maxHeartbeats 0
namespace Lw
open PySem PySem.Spec PyProof.Rows L2
section
variable {K : PySem.W.Frag} {h : Heap} {mg : Str → Option Value}
theorem mkDn (X : K.In h) (G : h.Ns mainGlobals mg) (c : He.SaysD fa fn K) {x : Str} {st : Stmt} {ps : List Str} (i j : Nat) (hd : fn[i]? = some ⟨(x, none), x, x, defArgs st, defBody st, defScope st, [], []⟩) (hg : fa[j]? = some (.glo x))
    (hb : ∀ (kV doc pm : Value) (an : Option Addr) (cdv ct : Value) (us : List Value), us.length = ps.length → bindArgs (PySem.W.fnOf x x (defArgs st) (defBody st) (defScope st) .none kV doc pm an cdv ct) ⟨us, []⟩ = pure (ps.zip us)) (hp : (defArgs st).args.map (·.arg) = ps) : Dn K mg x st ps := by
  obtain ⟨fd, F⟩ := c.def_ i hd
  refine ⟨_, fd, F, He.glo_ok X G (c.fact j hg), FunD.bindsN F hb, ?_⟩
  obtain ⟨oc, od, dV, kV, doc, pm, an, cdv, ct, osl, rfl, _⟩ := F.ex
  exact hp
theorem mkTx (X : K.In h) (G : h.Ns mainGlobals mg) (c : He.SaysD fa fn K) : Tx mg where
  isinstance_ := He.free_ok X G (c.fact 3 (f := .free "isinstance") rfl)
  tuple_ := He.free_ok X G (c.fact 4 (f := .free "tuple") rfl)
  list_ := He.free_ok X G (c.fact 5 (f := .free "list") rfl)
  bool_ := He.free_ok X G (c.fact 6 (f := .free "bool") rfl)
  int_ := He.free_ok X G (c.fact 7 (f := .free "int") rfl)
  str_ := He.free_ok X G (c.fact 8 (f := .free "str") rfl)
  all_ := He.free_ok X G (c.fact 9 (f := .free "all") rfl)
  any_ := He.free_ok X G (c.fact 10 (f := .free "any") rfl)
  len_ := He.free_ok X G (c.fact 11 (f := .free "len") rfl)
  set_ := He.free_ok X G (c.fact 12 (f := .free "set") rfl)
  range_ := He.free_ok X G (c.fact 13 (f := .free "range") rfl)
  zip_ := He.free_ok X G (c.fact 14 (f := .free "zip") rfl)
  enumerate_ := He.free_ok X G (c.fact 15 (f := .free "enumerate") rfl)
  sorted_ := He.free_ok X G (c.fact 16 (f := .free "sorted") rfl)
  abs_ := He.free_ok X G (c.fact 17 (f := .free "abs") rfl)
  min_ := He.free_ok X G (c.fact 18 (f := .free "min") rfl)
  max_ := He.free_ok X G (c.fact 19 (f := .free "max") rfl)
  vE := He.free_ok X G (c.fact 20 (f := .free "ValueError") rfl)
theorem mkCN (X : K.In h) (G : h.Ns mainGlobals mg) (c : He.SaysD fa fn K) (e : exB K = true) : CN K mg (He.ga K "CanNot") := by
  obtain ⟨x1, x2, x3, x4⟩ := He.exc_ok (c.fact 0 (f := .exc "CanNot") rfl)
  obtain ⟨b1, e⟩ := He.ba e
  obtain ⟨b2, e⟩ := He.ba e
  obtain ⟨b3, e⟩ := He.ba e
  obtain ⟨b4, e⟩ := He.ba e
  obtain ⟨b5, b6⟩ := He.ba e
  exact { g := He.glo_ok X G (c.fact 1 (f := .glo "CanNot") rfl), x := x1, k := x2, b := x3, t := x4, e := He.exm_ok (c.fact 2 (f := .exm "CanNot" "CanNot" true) rfl), c := ⟨He.eqO_ok b1, He.eqO_ok b2, x3, b3, He.eqO_ok b4, by first | rfl | kernel_rfl, by first | rfl | kernel_rfl, of_decide_eq_true b5⟩, v := of_decide_eq_true b6 }
end
theorem Cal.top {P : Program} {w : World} {K : PySem.W.Frag} {mg : Str → Option Value} {base : Heap} {k : Nat} {x : Str} {st : Stmt} {ps : List Str} {sp : Sp} {f : Addr} {fd : FuncData} (c : Cal P w K mg base k x sp) (F : FunD K x x (defArgs st) (defBody st) (defScope st) [] [] f fd) (hm : mg x = some (.ref f)) (hp : psOf fd = ps) : FnOk P w K mg base CX0 k f fd ps sp := by
  obtain ⟨f2, fd2, ps2, F2, m2, ⟨_, ep, oc, od, osl, lk⟩, _⟩ := c.ex
  rw [hm] at m2
  cases m2
  obtain ⟨oc2, od2, dV, kV, doc, pm, an, cdv, ct, osl2, _, lk2, _⟩ := F.ex
  rw [lk] at lk2
  cases lk2
  rw [ep] at hp
  subst hp
  exact F2
theorem facts {P : Program} {w : World} {K : PySem.W.Frag} {h : Heap} {mg : Str → Option Value} {f : Addr} (X : K.In h) (G : h.Ns mainGlobals mg) (hfa : mg ("law" : Str) = some (.ref f)) (c : He.SaysD fa fn K) (e : exB K = true) :
    ∃ fd : FuncData, (∀ (s : Shared) (v : Value), BindsTo s fd ⟨[v], []⟩ [("_law_script", v)]) ∧ ∀ base : Heap, K.In base → base.Ns mainGlobals mg → FnOk P w K mg base CX0 11 f fd ["_law_script"] (Pr K R_law) := by
  have T := mkTx X G c
  have cn := mkCN X G c e
  have D_is_number : Dn K mg "is_number" s_is_number ["thing"] := mkDn X G c 0 21 rfl rfl (fun _ _ _ _ _ _ us hl => match us, hl with | [_], _ => rfl) (by rfl)
  have D_is_from : Dn K mg "is_from" s_is_from ["thing", "least"] := mkDn X G c 1 22 rfl rfl (fun _ _ _ _ _ _ us hl => match us, hl with | [_, _], _ => rfl) (by rfl)
  have D_is_within : Dn K mg "is_within" s_is_within ["thing", "least", "most"] := mkDn X G c 2 23 rfl rfl (fun _ _ _ _ _ _ us hl => match us, hl with | [_, _, _], _ => rfl) (by rfl)
  have D_is_long : Dn K mg "is_long" s_is_long ["thing", "length"] := mkDn X G c 3 24 rfl rfl (fun _ _ _ _ _ _ us hl => match us, hl with | [_, _], _ => rfl) (by rfl)
  have D_tupled : Dn K mg "tupled" s_tupled ["value"] := mkDn X G c 4 25 rfl rfl (fun _ _ _ _ _ _ us hl => match us, hl with | [_], _ => rfl) (by rfl)
  have D_is_guest_of : Dn K mg "is_guest_of" s_is_guest_of ["many", "thing"] := mkDn X G c 5 26 rfl rfl (fun _ _ _ _ _ _ us hl => match us, hl with | [_, _], _ => rfl) (by rfl)
  have D_is_web : Dn K mg "is_web" s_is_web ["thing"] := mkDn X G c 6 27 rfl rfl (fun _ _ _ _ _ _ us hl => match us, hl with | [_], _ => rfl) (by rfl)
  have D_sure_web : Dn K mg "sure_web" s_sure_web ["web"] := mkDn X G c 7 28 rfl rfl (fun _ _ _ _ _ _ us hl => match us, hl with | [_], _ => rfl) (by rfl)
  have D_is_row_in : Dn K mg "is_row_in" s_is_row_in ["web", "thing"] := mkDn X G c 8 29 rfl rfl (fun _ _ _ _ _ _ us hl => match us, hl with | [_, _], _ => rfl) (by rfl)
  have D_is_order_in : Dn K mg "is_order_in" s_is_order_in ["web", "thing"] := mkDn X G c 9 30 rfl rfl (fun _ _ _ _ _ _ us hl => match us, hl with | [_, _], _ => rfl) (by rfl)
  have D_sure_order : Dn K mg "sure_order" s_sure_order ["web", "order"] := mkDn X G c 10 31 rfl rfl (fun _ _ _ _ _ _ us hl => match us, hl with | [_, _], _ => rfl) (by rfl)
  have D_seat_in : Dn K mg "seat_in" s_seat_in ["web", "taken", "guest"] := mkDn X G c 11 32 rfl rfl (fun _ _ _ _ _ _ us hl => match us, hl with | [_, _, _], _ => rfl) (by rfl)
  have D_seats_in : Dn K mg "seats_in" s_seats_in ["web", "row"] := mkDn X G c 12 33 rfl rfl (fun _ _ _ _ _ _ us hl => match us, hl with | [_, _], _ => rfl) (by rfl)
  have D_seated_in : Dn K mg "seated_in" s_seated_in ["web", "row"] := mkDn X G c 13 34 rfl rfl (fun _ _ _ _ _ _ us hl => match us, hl with | [_, _], _ => rfl) (by rfl)
  have D_is_taking_in : Dn K mg "is_taking_in" s_is_taking_in ["web", "thing"] := mkDn X G c 14 35 rfl rfl (fun _ _ _ _ _ _ us hl => match us, hl with | [_, _], _ => rfl) (by rfl)
  have D_sure_taking : Dn K mg "sure_taking" s_sure_taking ["web", "taking"] := mkDn X G c 15 36 rfl rfl (fun _ _ _ _ _ _ us hl => match us, hl with | [_, _], _ => rfl) (by rfl)
  have D_holders_in : Dn K mg "holders_in" s_holders_in ["taking"] := mkDn X G c 16 37 rfl rfl (fun _ _ _ _ _ _ us hl => match us, hl with | [_], _ => rfl) (by rfl)
  have D_asked_in : Dn K mg "asked_in" s_asked_in ["web", "taking", "guest"] := mkDn X G c 17 38 rfl rfl (fun _ _ _ _ _ _ us hl => match us, hl with | [_, _, _], _ => rfl) (by rfl)
  have D_arrows_in : Dn K mg "arrows_in" s_arrows_in ["web", "taking"] := mkDn X G c 18 39 rfl rfl (fun _ _ _ _ _ _ us hl => match us, hl with | [_, _], _ => rfl) (by rfl)
  have D_lacking_in : Dn K mg "lacking_in" s_lacking_in ["web", "taking"] := mkDn X G c 19 40 rfl rfl (fun _ _ _ _ _ _ us hl => match us, hl with | [_, _], _ => rfl) (by rfl)
  have D_order_in : Dn K mg "order_in" s_order_in ["web", "taking"] := mkDn X G c 20 41 rfl rfl (fun _ _ _ _ _ _ us hl => match us, hl with | [_, _], _ => rfl) (by rfl)
  have D_is_outcome_in : Dn K mg "is_outcome_in" s_is_outcome_in ["web", "taking"] := mkDn X G c 21 42 rfl rfl (fun _ _ _ _ _ _ us hl => match us, hl with | [_, _], _ => rfl) (by rfl)
  have D_sure_outcome : Dn K mg "sure_outcome" s_sure_outcome ["web", "outcome"] := mkDn X G c 22 43 rfl rfl (fun _ _ _ _ _ _ us hl => match us, hl with | [_, _], _ => rfl) (by rfl)
  have D_sure_had : Dn K mg "sure_had" s_sure_had ["web", "outcome"] := mkDn X G c 23 44 rfl rfl (fun _ _ _ _ _ _ us hl => match us, hl with | [_, _], _ => rfl) (by rfl)
  have D_firsts_in : Dn K mg "firsts_in" s_firsts_in ["web", "outcome"] := mkDn X G c 24 45 rfl rfl (fun _ _ _ _ _ _ us hl => match us, hl with | [_, _], _ => rfl) (by rfl)
  have D_free_of : Dn K mg "free_of" s_free_of ["left", "firsts"] := mkDn X G c 25 46 rfl rfl (fun _ _ _ _ _ _ us hl => match us, hl with | [_, _], _ => rfl) (by rfl)
  have D_others_left : Dn K mg "others_left" s_others_left ["left", "guest"] := mkDn X G c 26 47 rfl rfl (fun _ _ _ _ _ _ us hl => match us, hl with | [_, _], _ => rfl) (by rfl)
  have D_all_of : Dn K mg "all_of" s_all_of ["web"] := mkDn X G c 27 48 rfl rfl (fun _ _ _ _ _ _ us hl => match us, hl with | [_], _ => rfl) (by rfl)
  have D_sure_its_order : Dn K mg "sure_its_order" s_sure_its_order ["web", "outcome", "order"] := mkDn X G c 28 49 rfl rfl (fun _ _ _ _ _ _ us hl => match us, hl with | [_, _, _], _ => rfl) (by rfl)
  have D_gone_on : Dn K mg "gone_on" s_gone_on ["left", "firsts", "is_least"] := mkDn X G c 29 50 rfl rfl (fun _ _ _ _ _ _ us hl => match us, hl with | [_, _, _], _ => rfl) (by rfl)
  have D_beside_order : Dn K mg "beside_order" s_beside_order ["web", "outcome", "order", "is_next"] := mkDn X G c 30 51 rfl rfl (fun _ _ _ _ _ _ us hl => match us, hl with | [_, _, _, _], _ => rfl) (by rfl)
  have D_next_order : Dn K mg "next_order" s_next_order ["web", "outcome", "order"] := mkDn X G c 31 52 rfl rfl (fun _ _ _ _ _ _ us hl => match us, hl with | [_, _, _], _ => rfl) (by rfl)
  have D_order_ahead : Dn K mg "order_ahead" s_order_ahead ["web", "outcome", "order"] := mkDn X G c 32 53 rfl rfl (fun _ _ _ _ _ _ us hl => match us, hl with | [_, _, _], _ => rfl) (by rfl)
  have D_least_order : Dn K mg "least_order" s_least_order ["web", "outcome"] := mkDn X G c 33 54 rfl rfl (fun _ _ _ _ _ _ us hl => match us, hl with | [_, _], _ => rfl) (by rfl)
  have D_greatest_order : Dn K mg "greatest_order" s_greatest_order ["web", "outcome"] := mkDn X G c 34 55 rfl rfl (fun _ _ _ _ _ _ us hl => match us, hl with | [_, _], _ => rfl) (by rfl)
  have D_step_to : Dn K mg "step_to" s_step_to ["web", "outcome", "order", "goal"] := mkDn X G c 35 56 rfl rfl (fun _ _ _ _ _ _ us hl => match us, hl with | [_, _, _, _], _ => rfl) (by rfl)
  have D__law_box : Dn K mg "_law_box" s__law_box ["_law_script", "_law_k"] := mkDn X G c 36 57 rfl rfl (fun _ _ _ _ _ _ us hl => match us, hl with | [_, _], _ => rfl) (by rfl)
  have D__law_take : Dn K mg "_law_take" s__law_take ["_law_tin", "_law_below_so"] := mkDn X G c 37 58 rfl rfl (fun _ _ _ _ _ _ us hl => match us, hl with | [_, _], _ => rfl) (by rfl)
  have D__law_cells : Dn K mg "_law_cells" s__law_cells ["_law_script", "_law_most_so"] := mkDn X G c 38 59 rfl rfl (fun _ _ _ _ _ _ us hl => match us, hl with | [_, _], _ => rfl) (by rfl)
  have D__law_of : Dn K mg "_law_of" s__law_of ["_law_tin", "_law_goods_so"] := mkDn X G c 39 60 rfl rfl (fun _ _ _ _ _ _ us hl => match us, hl with | [_, _], _ => rfl) (by rfl)
  have D__law_pick : Dn K mg "_law_pick" s__law_pick ["_law_tin", "_law_goods_so", "_law_count_so"] := mkDn X G c 40 61 rfl rfl (fun _ _ _ _ _ _ us hl => match us, hl with | [_, _, _], _ => rfl) (by rfl)
  have D__law_lists : Dn K mg "_law_lists" s__law_lists ["_law_matter"] := mkDn X G c 41 62 rfl rfl (fun _ _ _ _ _ _ us hl => match us, hl with | [_], _ => rfl) (by rfl)
  have D__law_same : Dn K mg "_law_same" s__law_same ["_law_got", "_law_due"] := mkDn X G c 42 63 rfl rfl (fun _ _ _ _ _ _ us hl => match us, hl with | [_, _], _ => rfl) (by rfl)
  have D__law_seat : Dn K mg "_law_seat" s__law_seat ["_law_net_here", "_law_taken_so", "_law_k"] := mkDn X G c 43 64 rfl rfl (fun _ _ _ _ _ _ us hl => match us, hl with | [_, _, _], _ => rfl) (by rfl)
  have D__law_all_runs : Dn K mg "_law_all_runs" s__law_all_runs ["_law_net_here"] := mkDn X G c 44 65 rfl rfl (fun _ _ _ _ _ _ us hl => match us, hl with | [_], _ => rfl) (by rfl)
  have D__law_net : Dn K mg "_law_net" s__law_net ["_law_tin", "_law_places_so", "_law_guests_so"] := mkDn X G c 45 66 rfl rfl (fun _ _ _ _ _ _ us hl => match us, hl with | [_, _, _], _ => rfl) (by rfl)
  have D__law_walk : Dn K mg "_law_walk" s__law_walk ["_law_tin", "_law_many_so"] := mkDn X G c 46 67 rfl rfl (fun _ _ _ _ _ _ us hl => match us, hl with | [_, _], _ => rfl) (by rfl)
  have D__law_had : Dn K mg "_law_had" s__law_had ["_law_tin", "_law_net_here"] := mkDn X G c 47 68 rfl rfl (fun _ _ _ _ _ _ us hl => match us, hl with | [_, _], _ => rfl) (by rfl)
  have D__law_heard : Dn K mg "_law_heard" s__law_heard ["_law_door", "_law_net_here", "_law_seats", "_law_walk_here", "_law_end_so"] := mkDn X G c 48 69 rfl rfl (fun _ _ _ _ _ _ us hl => match us, hl with | [_, _, _, _, _], _ => rfl) (by rfl)
  have D__law_by_hand_right : Dn K mg "_law_by_hand_right" s__law_by_hand_right [] := mkDn X G c 49 70 rfl rfl (fun _ _ _ _ _ _ us hl => match us, hl with | [], _ => rfl) (by rfl)
  have D__law_step : Dn K mg "_law_step" s__law_step ["_law_walk_here", "_law_end_so"] := mkDn X G c 50 71 rfl rfl (fun _ _ _ _ _ _ us hl => match us, hl with | [_, _], _ => rfl) (by rfl)
  have D__law_right : Dn K mg "_law_right" s__law_right ["_law_tin"] := mkDn X G c 51 72 rfl rfl (fun _ _ _ _ _ _ us hl => match us, hl with | [_], _ => rfl) (by rfl)
  have D_law : Dn K mg "law" s_law ["_law_script"] := mkDn X G c 52 73 rfl rfl (fun _ _ _ _ _ _ us hl => match us, hl with | [_], _ => rfl) (by rfl)
  obtain ⟨fd, F⟩ := c.def_ 52 (d := d_law) rfl
  have m := He.glo_ok X G (c.fact 73 (f := .glo "law") rfl)
  have ee := hfa.symm.trans m
  cases ee
  have b := FunD.bindsA (ps := ["_law_script"]) F fun _ _ _ _ _ _ us hl => match us, hl with | [_], _ => rfl
  have F : FunD K "law" "law" (defArgs s_law) (defBody s_law) (defScope s_law) [] [] (He.ga K "law") fd := F
  have hps : psOf fd = (["_law_script"] : List Str) := by
    obtain ⟨oc, od, dV, kV, doc, pm, an, cdv, ct, osl, efd, _⟩ := F.ex
    rw [efd]
    rfl
  refine ⟨fd, fun s v => b s [v] rfl, fun base _ _ => ?_⟩
  have k_is_number := c_is_number (P := P) (w := w) (base := base) T D_is_number
  have k_is_from := c_is_from (P := P) (w := w) (base := base) D_is_from k_is_number
  have k_is_within := c_is_within (P := P) (w := w) (base := base) D_is_within k_is_number
  have k_is_long := c_is_long (P := P) (w := w) (base := base) T D_is_long
  have k_tupled3 := c_tupled (P := P) (w := w) (base := base) T D_tupled 3
  have k_tupled1 := c_tupled (P := P) (w := w) (base := base) T D_tupled 1
  have k_tupled0 := c_tupled (P := P) (w := w) (base := base) T D_tupled 0
  have k_is_guest_of := c_is_guest_of (P := P) (w := w) (base := base) T D_is_guest_of k_is_long k_is_within
  have k_is_web := c_is_web (P := P) (w := w) (base := base) T D_is_web k_is_long k_is_from k_is_guest_of
  have k_sure_web := c_sure_web (P := P) (w := w) (base := base) D_sure_web k_tupled3 k_is_web
  have k_is_row_in := c_is_row_in (P := P) (w := w) (base := base) T D_is_row_in k_is_within
  have k_is_order_in := c_is_order_in (P := P) (w := w) (base := base) T D_is_order_in k_is_row_in
  have k_sure_order := c_sure_order (P := P) (w := w) (base := base) D_sure_order k_tupled1 k_is_order_in
  have k_tupledN := c_tupledN (P := P) (w := w) (base := base) T D_tupled k_tupled0
  have k_sure_orderN := c_sure_orderN (P := P) (w := w) (base := base) D_sure_order k_tupledN k_is_order_in
  have k_seat_in := c_seat_in (P := P) (w := w) (base := base) D_seat_in
  have k_seats_in := c_seats_in (P := P) (w := w) (base := base) D_seats_in k_seat_in
  have k_seated_in := c_seated_in (P := P) (w := w) (base := base) T D_seated_in k_seats_in
  have k_is_taking_in := c_is_taking_in (P := P) (w := w) (base := base) T D_is_taking_in k_is_number
  have k_sure_taking := c_sure_taking (P := P) (w := w) (base := base) D_sure_taking k_tupled1 k_is_taking_in
  have k_holders_in := c_holders_in (P := P) (w := w) (base := base) T D_holders_in
  have k_asked_in := c_asked_in (P := P) (w := w) (base := base) D_asked_in
  have k_arrows_in := c_arrows_in (P := P) (w := w) (base := base) T D_arrows_in k_holders_in k_asked_in
  have k_lacking_in := c_lacking_in (P := P) (w := w) (base := base) T D_lacking_in k_holders_in k_asked_in
  have k_order_in := c_order_in (P := P) (w := w) (base := base) T D_order_in k_arrows_in
  have k_is_outcome_in := c_is_outcome_in (P := P) (w := w) (base := base) D_is_outcome_in k_lacking_in k_order_in
  have k_sure_outcome := c_sure_outcome (P := P) (w := w) (base := base) D_sure_outcome k_sure_taking k_is_outcome_in
  have k_sure_had := c_sure_had (P := P) (w := w) (base := base) D_sure_had k_sure_web k_sure_outcome
  have k_firsts_in := c_firsts_in (P := P) (w := w) (base := base) T D_firsts_in k_arrows_in
  have k_free_of := c_free_of (P := P) (w := w) (base := base) T D_free_of
  have k_others_left := c_others_left (P := P) (w := w) (base := base) T D_others_left
  have k_all_of := c_all_of (P := P) (w := w) (base := base) T D_all_of
  have k_gone_on := c_gone_on (P := P) (w := w) (base := base) T D_gone_on k_free_of k_others_left
  have k_its := c_sure_its_order (P := P) (w := w) (base := base) cn D_sure_its_order k_sure_had k_sure_order k_seated_in
  have k_bes := c_beside_order (P := P) (w := w) (base := base) T cn D_beside_order k_firsts_in k_free_of k_gone_on k_others_left
  have k_next := c_next_order (P := P) (w := w) (base := base) D_next_order k_its k_bes
  have k_ahead := c_order_ahead (P := P) (w := w) (base := base) D_order_ahead k_its k_bes
  have k_least := c_least_order (P := P) (w := w) (base := base) D_least_order k_sure_had k_gone_on k_all_of k_firsts_in
  have k_greatest := c_greatest_order (P := P) (w := w) (base := base) D_greatest_order k_sure_had k_gone_on k_all_of k_firsts_in
  have k_step := c_step_to (P := P) (w := w) (base := base) T cn D_step_to k_sure_had k_sure_orderN k_seated_in
  have k_box := c_law_box (P := P) (w := w) (base := base) T D__law_box
  have k_cells := c_law_cells (P := P) (w := w) (base := base) T D__law_cells
  have k_take := c_law_take (P := P) (w := w) (base := base) T D__law_take
  have k_of := c_law_of (P := P) (w := w) (base := base) T D__law_of k_take
  have k_pick := c_law_pick (P := P) (w := w) (base := base) T D__law_pick k_take
  have k_walk := c_law_walk (P := P) (w := w) (base := base) T D__law_walk k_pick
  have k_net := c_law_net (P := P) (w := w) (base := base) T D__law_net k_take k_pick
  have k_seat := c_law_seat (P := P) (w := w) (base := base) D__law_seat
  have k_runs := c_law_all_runs (P := P) (w := w) (base := base) T D__law_all_runs k_seat
  have k_had := c_law_had (P := P) (w := w) (base := base) D__law_had k_runs k_of
  have k_lists := c_law_lists (P := P) (w := w) (base := base) T D__law_lists 3
  have k_same := c_law_same (P := P) (w := w) (base := base) T D__law_same 2
  have k_lstep := c_law_step (P := P) (w := w) (base := base) T D__law_step
  have k_heard := c_law_heard (P := P) (w := w) (base := base) T cn D__law_heard k_next k_ahead k_step
  have w_next := Cal.kw (ks := ["order", "outcome", "web"]) k_next.pr D_next_order (by decide) (fun _ _ _ _ _ _ ws hl => match ws, hl with | [_, _, _], _ => rfl)
  have w_ahead := Cal.kw (ks := ["order", "outcome", "web"]) k_ahead.pr D_order_ahead (by decide) (fun _ _ _ _ _ _ ws hl => match ws, hl with | [_, _, _], _ => rfl)
  have w_step := Cal.kw (ks := ["goal", "order", "outcome", "web"]) k_step.pr D_step_to (by decide) (fun _ _ _ _ _ _ ws hl => match ws, hl with | [_, _, _, _], _ => rfl)
  have w_least := Cal.kw (ks := ["outcome", "web"]) k_least D_least_order (by decide) (fun _ _ _ _ _ _ ws hl => match ws, hl with | [_, _], _ => rfl)
  have k_hand := c_law_by_hand_right T D__law_by_hand_right k_heard k_least k_greatest k_lists k_same w_next w_ahead w_step w_least
  have k_right := c_law_right T D__law_right k_net k_had k_least k_greatest k_lists k_take k_heard k_lstep k_walk k_same
  exact Cal.top (c_law D_law k_hand k_right k_box k_cells) F m hps
end Lw
open PySem PySem.W PySem.Calls PyProof.Rows
theorem PySem.Challenge.cw_leftwithout_k29_whole_next_orders_and_st_holds : PySem.Challenge.rw_leftwithout_k29_whole_next_orders_and_st.Holds := by
  w_on; o_law
  refine HandSHeadRun.head_any (r := OpenLaw.row PySem.Challenge.rw_leftwithout_k29_whole_next_orders_and_st) (q := view (OpenLaw.row PySem.Challenge.rw_leftwithout_k29_whole_next_orders_and_st).prog [62]) (H := Lw.hkX) (ob := Lw.ob2) (M := 3000) (loose := Lw.loose) (d := HandSHeadRun.topDef (OpenLaw.row PySem.Challenge.rw_leftwithout_k29_whole_next_orders_and_st).prog 62) (kwd := []) Lw.ob2_eq
    (by kernel_rfl) (fun s => by kernel_rfl) Lw.run2 (by kernel_rfl) (by kernel_rfl) (by kernel_rfl) (by rfl) (by first | assumption | decide +kernel) (by decide +kernel) ⟨rfl, rfl, rfl, rfl, rfl, by decide +kernel⟩ ?hw ?hc
  case hw => w_witness2
  case hc =>
    refine L2.walk_ofE (l := PySem.Challenge.rw_leftwithout_k29_whole_next_orders_and_st) (n := 63) (k := 11) (x := "_law_script") (CX := L2.CX0) rfl (by decide) (by kernel_rfl) ⟨rfl, by decide, by decide⟩ ?F (fun _ _ _ _ z => z)
    intro w mg fa h Y G hmg0
    obtain ⟨K, KX, c, e⟩ := Y
    have hmg : mg ("law" : PySem.Str) = some (.ref fa) := by
      have e : (HandSHeadRun.topDef (OpenLaw.row PySem.Challenge.rw_leftwithout_k29_whole_next_orders_and_st).prog 62).name = ("law" : PySem.Str) := by kernel_rfl
      rw [← e]
      exact hmg0
    obtain ⟨fd, hb, hF⟩ := Lw.facts (P := (PySem.Challenge.rw_leftwithout_k29_whole_next_orders_and_st).prog) (w := w) KX G hmg c e
    exact ⟨K, fd, Lw.Pr K Lw.R_law, KX, hb, fun H a ns hl _ hS => ⟨[.list (ns.map PySem.PyData.int)], .bool true, .cons (.lst hS (L2.dpall_ints ns)) .nil, ⟨ns, rfl, Nat.le_trans hl (by decide), rfl⟩, fun v H' _ hd => L2.dp_bl hd⟩, hF⟩
