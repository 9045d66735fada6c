import PyProof.Rows.All
import Wide.All
import OpenK.AllK
import Wide.FinOn
import HandS.ForMost
import HandS.Defaults
import HandS.HeadHook4
import PySem.Challenge.RW_moredone_k59_whole_asked_till_one_is_lef
import HandS.Deep
import HandS.Star
import HandS.IsInst
import HandS.TupAny
import HandS.Zip
import HandS.Style
import KE.KeyNested
import KE.SortData
import HandS.TupSets
import KE.DataEq
import KE.KDictKeyed
import KE.KDictWalk
import HandS.DictComp
import HandS.Text
import PyProof.ListStr
import KE.KStateDown
import Lean
import HandS.Head0
import HandS.Head1
import HandS.Head2
import HandS.HeadEnd
/-! ## MkMath -/
set_option autoImplicit true
set_option autoImplicit false
namespace MkM
/-! Plain mathematics of words (rows of names), their parts and bases. No program in sight. -/
section
variable {α : Type} [DecidableEq α]
/-- how many events of w are met, one after the other, in l, from m on -/
def begunFrom (w : List α) (m : Nat) (l : List α) : Nat := l.foldl (fun m x => if w[m]? = some x then m + 1 else m) m
def begun (w l : List α) : Nat := begunFrom w 0 l
def isPart (w l : List α) : Bool := decide (begun w l = w.length)
theorem begunFrom_cons (w : List α) (m : Nat) (x : α) (l : List α) :
    begunFrom w m (x :: l) = begunFrom w (if w[m]? = some x then m + 1 else m) l := rfl
theorem begunFrom_le (w : List α) : ∀ (l : List α) (m : Nat), m ≤ w.length → begunFrom w m l ≤ w.length
  | [], m, h => h
  | x :: l, m, h => by
    rw [begunFrom_cons]
    apply begunFrom_le w l
    split
    · rename_i e
      exact (List.getElem?_eq_some_iff.mp e).1
    · exact h
theorem begun_le (w l : List α) : begun w l ≤ w.length := begunFrom_le w l 0 (Nat.zero_le _)
/-- the rest of w behind m is a part of l exactly if all is met -/
theorem begunFrom_iff (w : List α) : ∀ (l : List α) (m : Nat), m ≤ w.length → (begunFrom w m l = w.length ↔ (w.drop m).Sublist l)
  | [], m, h => by
    show m = w.length ↔ _
    rw [List.sublist_nil, List.drop_eq_nil_iff]
    omega
  | x :: l, m, h => by
    rw [begunFrom_cons]
    by_cases e : w[m]? = some x
    · rw [if_pos e]
      obtain ⟨hm, ex⟩ := List.getElem?_eq_some_iff.mp e
      rw [begunFrom_iff w l (m + 1) hm, List.drop_eq_getElem_cons hm, ex]
      exact (List.cons_sublist_cons).symm
    · rw [if_neg e, begunFrom_iff w l m h]
      refine ⟨fun s => s.cons x, fun s => ?_⟩
      by_cases hm : m < w.length
      · rw [List.drop_eq_getElem_cons hm] at s ⊢
        rcases List.sublist_cons_iff.mp s with s | ⟨r, er, s⟩
        · exact s
        · exact absurd (by rw [List.getElem?_eq_getElem hm]; exact congrArg some (List.cons.inj er).1) e
      · rw [List.drop_eq_nil_of_le (by omega)]
        exact List.nil_sublist _
theorem isPart_iff (w l : List α) : isPart w l = true ↔ w.Sublist l := by
  unfold isPart begun
  rw [decide_eq_true_eq, begunFrom_iff w l 0 (Nat.zero_le _), List.drop_zero]
theorem isPart_self (w : List α) : isPart w w = true := (isPart_iff w w).mpr (List.Sublist.refl w)
/-- whether a log does a base -/
def does (b : List (List α)) (l : List α) : Bool := b.any fun w => isPart w l
theorem does_iff (b : List (List α)) (l : List α) : does b l = true ↔ ∃ w ∈ b, w.Sublist l := by
  unfold does
  rw [List.any_eq_true]
  exact exists_congr fun w => and_congr_right fun _ => isPart_iff w l
theorem does_mono {b : List (List α)} {l m : List α} (h : does b l = true) (s : l.Sublist m) : does b m = true := by
  obtain ⟨w, hw, p⟩ := (does_iff b l).mp h
  exact (does_iff b m).mpr ⟨w, hw, p.trans s⟩
theorem does_mem {b : List (List α)} {w : List α} (h : w ∈ b) : does b w = true := (does_iff b w).mpr ⟨w, h, List.Sublist.refl w⟩
/-! ### the order of logs: fewer events first, of as many by the names -/
end
/-- an order of names -/
structure Ord (α : Type) where
  lt : α → α → Bool
  irr : ∀ a, lt a a = false
  tr : ∀ a b c, lt a b = true → lt b c = true → lt a c = true
  tot : ∀ a b, lt a b = false → lt b a = false → a = b
section
variable {α : Type} [DecidableEq α] (O : Ord α)
def lex : List α → List α → Bool
  | [], [] => false
  | [], _ :: _ => true
  | _ :: _, [] => false
  | a :: l, b :: m => if a = b then lex l m else O.lt a b
theorem lex_irr : ∀ l : List α, lex O l l = false
  | [] => rfl
  | a :: l => by rw [lex, if_pos rfl]; exact lex_irr l
theorem lex_tr : ∀ l m n : List α, lex O l m = true → lex O m n = true → lex O l n = true
  | _, [], [], h, k => by simp [lex] at k
  | [], [], _ :: _, h, k => by simp [lex] at h
  | _ :: _, [], _ :: _, h, k => by simp [lex] at h
  | [], _ :: _, [], h, k => by simp [lex] at k
  | _ :: _, _ :: _, [], h, k => by simp [lex] at k
  | [], _ :: _, _ :: _, h, k => rfl
  | a :: l, b :: m, c :: n, h, k => by
    rw [lex] at h k ⊢
    by_cases e1 : a = b
    · subst e1
      by_cases e2 : a = c
      · subst e2
        rw [if_pos rfl] at h k ⊢
        exact lex_tr l m n h k
      · rw [if_pos rfl] at h
        rw [if_neg e2] at k ⊢
        exact k
    · rw [if_neg e1] at h
      by_cases e2 : b = c
      · subst e2
        rw [if_neg e1]
        exact h
      · rw [if_neg e2] at k
        by_cases e3 : a = c
        · subst e3
          have := O.tr _ _ _ h k
          rw [O.irr] at this
          cases this
        · rw [if_neg e3]
          exact O.tr _ _ _ h k
theorem lex_tot : ∀ l m : List α, lex O l m = false → lex O m l = false → l = m
  | [], [], _, _ => rfl
  | [], _ :: _, h, _ => by simp [lex] at h
  | _ :: _, [], _, k => by simp [lex] at k
  | a :: l, b :: m, h, k => by
    rw [lex] at h k
    by_cases e : a = b
    · subst e
      rw [if_pos rfl] at h k
      rw [lex_tot l m h k]
    · rw [if_neg e] at h
      rw [if_neg (Ne.symm e)] at k
      exact absurd (O.tot a b h k) e
/-- a log stands ahead of another -/
def wlt (l m : List α) : Bool := decide (l.length < m.length) || (decide (l.length = m.length) && lex O l m)
theorem wlt_irr (l : List α) : wlt O l l = false := by simp [wlt, lex_irr O l]
theorem wlt_tr {l m n : List α} (h : wlt O l m = true) (k : wlt O m n = true) : wlt O l n = true := by
  unfold wlt at h k ⊢
  rw [Bool.or_eq_true, Bool.and_eq_true, decide_eq_true_eq, decide_eq_true_eq] at h k ⊢
  rcases h with h | ⟨h1, h2⟩ <;> rcases k with k | ⟨k1, k2⟩
  · exact .inl (by omega)
  · exact .inl (by omega)
  · exact .inl (by omega)
  · exact .inr ⟨by omega, lex_tr O _ _ _ h2 k2⟩
theorem wlt_tot {l m : List α} (h : wlt O l m = false) (k : wlt O m l = false) : l = m := by
  unfold wlt at h k
  rw [Bool.or_eq_false_iff, decide_eq_false_iff_not] at h k
  have e : l.length = m.length := by omega
  have h2 := h.2
  have k2 := k.2
  rw [decide_eq_true e, Bool.true_and] at h2
  rw [decide_eq_true e.symm, Bool.true_and] at k2
  exact lex_tot O l m h2 k2
theorem wlt_of_len {l m : List α} (h : l.length < m.length) : wlt O l m = true := by
  unfold wlt
  rw [decide_eq_true h]
  rfl
theorem wlt_len {l m : List α} (h : wlt O l m = true) : l.length ≤ m.length := by
  unfold wlt at h
  rw [Bool.or_eq_true, Bool.and_eq_true, decide_eq_true_eq, decide_eq_true_eq] at h
  omega
/-- strictly in order -/
abbrev Inc (l : List (List α)) : Prop := l.Pairwise fun x y => wlt O x y = true
/-- two rows in order with the same members are one -/
theorem inc_unique : ∀ {l m : List (List α)}, Inc O l → Inc O m → (∀ x, x ∈ l ↔ x ∈ m) → l = m
  | [], [], _, _, _ => rfl
  | [], y :: m, _, _, h => by have := (h y).mpr List.mem_cons_self; cases this
  | x :: l, [], _, _, h => by have := (h x).mp List.mem_cons_self; cases this
  | x :: l, y :: m, hl, hm, h => by
    obtain ⟨a1, a2⟩ := List.pairwise_cons.mp hl
    obtain ⟨b1, b2⟩ := List.pairwise_cons.mp hm
    have e : x = y := by
      rcases List.mem_cons.mp ((h x).mp List.mem_cons_self) with e | hx
      · exact e
      · rcases List.mem_cons.mp ((h y).mpr List.mem_cons_self) with e | hy
        · exact e.symm
        · have c := wlt_tr O (a1 y hy) (b1 x hx)
          rw [wlt_irr] at c
          cases c
    subst e
    have e2 : l = m := inc_unique a2 b2 fun z => by
      constructor
      · intro hz
        rcases List.mem_cons.mp ((h z).mp (List.mem_cons_of_mem _ hz)) with e | hz'
        · subst e
          have c := a1 z hz
          rw [wlt_irr] at c
          cases c
        · exact hz'
      · intro hz
        rcases List.mem_cons.mp ((h z).mpr (List.mem_cons_of_mem _ hz)) with e | hz'
        · subst e
          have c := b1 z hz
          rw [wlt_irr] at c
          cases c
        · exact hz'
    rw [e2]
theorem inc_nodup {l : List (List α)} (h : Inc O l) : l.Nodup := List.Pairwise.imp (fun {a b} p e => by
  subst e
  rw [wlt_irr] at p
  cases p) h
/-- put into a row in order, once -/
def insU (x : List α) : List (List α) → List (List α)
  | [] => [x]
  | y :: l => if x = y then y :: l else if wlt O x y = true then x :: y :: l else y :: insU x l
theorem mem_insU (x z : List α) : ∀ l : List (List α), z ∈ insU O x l ↔ z = x ∨ z ∈ l
  | [] => by simp [insU]
  | y :: l => by
    unfold insU
    split
    · rename_i e
      subst e
      simp
    · split
      · simp
      · rw [List.mem_cons, mem_insU x z l, List.mem_cons]
        constructor
        · rintro (h | h | h)
          · exact .inr (.inl h)
          · exact .inl h
          · exact .inr (.inr h)
        · rintro (h | h | h)
          · exact .inr (.inl h)
          · exact .inl h
          · exact .inr (.inr h)
theorem inc_insU (x : List α) : ∀ {l : List (List α)}, Inc O l → Inc O (insU O x l)
  | [], _ => List.pairwise_singleton _ _
  | y :: l, h => by
    obtain ⟨a1, a2⟩ := List.pairwise_cons.mp h
    unfold insU
    split
    · exact h
    · rename_i e
      split
      · rename_i c
        refine List.pairwise_cons.mpr ⟨fun z hz => ?_, h⟩
        rcases List.mem_cons.mp hz with ez | hz
        · subst ez
          exact c
        · exact wlt_tr O c (a1 z hz)
      · rename_i c
        refine List.pairwise_cons.mpr ⟨fun z hz => ?_, inc_insU x a2⟩
        rcases (mem_insU O x z l).mp hz with ez | hz
        · subst ez
          cases d : wlt O y z with
          | true => rfl
          | false => exact absurd (wlt_tot O (by simpa using c) d) e
        · exact a1 z hz
/-- some logs, each once, in order -/
def inOrder (ls : List (List α)) : List (List α) := ls.foldr (insU O) []
theorem mem_inOrder (z : List α) : ∀ ls : List (List α), z ∈ inOrder O ls ↔ z ∈ ls
  | [] => Iff.rfl
  | x :: ls => by
    show z ∈ insU O x (inOrder O ls) ↔ _
    rw [mem_insU, mem_inOrder z ls, List.mem_cons]
theorem inc_inOrder : ∀ ls : List (List α), Inc O (inOrder O ls)
  | [] => List.Pairwise.nil
  | x :: ls => inc_insU O x (inc_inOrder ls)
theorem inOrder_unique {l : List (List α)} {ls : List (List α)} (h : Inc O l) (hm : ∀ x, x ∈ l ↔ x ∈ ls) : l = inOrder O ls :=
  inc_unique O h (inc_inOrder O ls) fun x => (hm x).trans (mem_inOrder O x ls).symm
theorem inOrder_self {l : List (List α)} (h : Inc O l) : inOrder O l = l := (inOrder_unique O h fun _ => Iff.rfl).symm
theorem inOrder_congr {l m : List (List α)} (h : ∀ x, x ∈ l ↔ x ∈ m) : inOrder O l = inOrder O m :=
  inOrder_unique O (inc_inOrder O l) fun x => (mem_inOrder O x l).trans (h x)
/-- those that have no one ahead of them as a part -/
def keepLeast (found : List (List α)) (ls : List (List α)) : List (List α) :=
  ls.foldl (fun found l => if (found.any fun w => isPart w l) = true then found else found ++ [l]) found
def leastOf (ls : List (List α)) : List (List α) := keepLeast [] (inOrder O ls)
/-- a base: in order, no word a part of another -/
structure Base (b : List (List α)) : Prop where
  inc : Inc O b
  anti : ∀ v ∈ b, ∀ w ∈ b, v.Sublist w → v = w
theorem keepLeast_spec : ∀ (ls found : List (List α)), Inc O (found ++ ls) → Base O found →
    Base O (keepLeast found ls) ∧ (∀ w ∈ keepLeast found ls, w ∈ found ∨ w ∈ ls) ∧ (∀ w ∈ found, w ∈ keepLeast found ls) ∧ (∀ l ∈ ls, ∃ w ∈ keepLeast found ls, w.Sublist l)
  | [], found, _, hb => ⟨hb, fun w h => .inl h, fun w h => h, fun l h => by cases h⟩
  | l :: ls, found, hi, hb => by
    show Base O (keepLeast (if (found.any fun w => isPart w l) = true then found else found ++ [l]) ls) ∧ _
    unfold keepLeast
    rw [List.foldl_cons]
    show Base O (keepLeast (if (found.any fun w => isPart w l) = true then found else found ++ [l]) ls) ∧ (∀ w ∈ keepLeast (if (found.any fun w => isPart w l) = true then found else found ++ [l]) ls, w ∈ found ∨ w ∈ l :: ls) ∧
      (∀ w ∈ found, w ∈ keepLeast (if (found.any fun w => isPart w l) = true then found else found ++ [l]) ls) ∧ (∀ x ∈ l :: ls, ∃ w ∈ keepLeast (if (found.any fun w => isPart w l) = true then found else found ++ [l]) ls, w.Sublist x)
    by_cases c : (found.any fun w => isPart w l) = true
    · rw [if_pos c]
      have hi' : Inc O (found ++ ls) := hi.sublist (List.Sublist.append_left (List.sublist_cons_self l ls) found)
      obtain ⟨h1, h2, h3, h4⟩ := keepLeast_spec ls found hi' hb
      refine ⟨h1, fun w hw => ?_, h3, fun x hx => ?_⟩
      · rcases h2 w hw with h | h
        · exact .inl h
        · exact .inr (List.mem_cons_of_mem _ h)
      · rcases List.mem_cons.mp hx with e | hx
        · subst e
          obtain ⟨w, hw, p⟩ := List.any_eq_true.mp c
          exact ⟨w, h3 w hw, (isPart_iff w x).mp p⟩
        · exact h4 x hx
    · rw [if_neg c]
      have no : ∀ w ∈ found, ¬ w.Sublist l := fun w hw s => c (List.any_eq_true.mpr ⟨w, hw, (isPart_iff w l).mpr s⟩)
      have hi' : Inc O ((found ++ [l]) ++ ls) := by
        rw [List.append_assoc]
        exact hi
      have hf : Inc O (found ++ [l]) := (List.pairwise_append.mp hi').1
      have hb' : Base O (found ++ [l]) := by
        refine ⟨hf, fun v hv w hw s => ?_⟩
        rcases List.mem_append.mp hv with hv | hv <;> rcases List.mem_append.mp hw with hw | hw
        · exact hb.anti v hv w hw s
        · rw [List.mem_singleton] at hw
          rw [hw] at s
          exact absurd s (no v hv)
        · rw [List.mem_singleton] at hv
          have lt := (List.pairwise_append.mp hf).2.2 w hw l List.mem_cons_self
          rw [hv] at s ⊢
          have e := s.length_le
          have e' := wlt_len O lt
          exact List.Sublist.eq_of_length s (by omega)
        · rw [List.mem_singleton] at hv hw
          rw [hv, hw]
      obtain ⟨h1, h2, h3, h4⟩ := keepLeast_spec ls (found ++ [l]) hi' hb'
      refine ⟨h1, fun w hw => ?_, fun w hw => h3 w (List.mem_append_left _ hw), fun x hx => ?_⟩
      · rcases h2 w hw with h | h
        · rcases List.mem_append.mp h with h | h
          · exact .inl h
          · rw [List.mem_singleton] at h
            rw [h]
            exact .inr List.mem_cons_self
        · exact .inr (List.mem_cons_of_mem _ h)
      · rcases List.mem_cons.mp hx with e | hx
        · subst e
          exact ⟨x, h3 x (List.mem_append_right _ List.mem_cons_self), List.Sublist.refl x⟩
        · exact h4 x hx
theorem leastOf_base (ls : List (List α)) : Base O (leastOf O ls) :=
  (keepLeast_spec O (inOrder O ls) [] (inc_inOrder O ls) ⟨List.Pairwise.nil, fun v h => by cases h⟩).1
theorem leastOf_mem {ls : List (List α)} {w : List α} (h : w ∈ leastOf O ls) : w ∈ ls := by
  rcases (keepLeast_spec O (inOrder O ls) [] (inc_inOrder O ls) ⟨List.Pairwise.nil, fun v h => by cases h⟩).2.1 w h with h | h
  · cases h
  · exact (mem_inOrder O w ls).mp h
theorem leastOf_below {ls : List (List α)} {l : List α} (h : l ∈ ls) : ∃ w ∈ leastOf O ls, w.Sublist l :=
  (keepLeast_spec O (inOrder O ls) [] (inc_inOrder O ls) ⟨List.Pairwise.nil, fun v h => by cases h⟩).2.2.2 l ((mem_inOrder O l ls).mpr h)
theorem does_leastOf (ls : List (List α)) (l : List α) : does (leastOf O ls) l = does ls l := by
  rw [Bool.eq_iff_iff, does_iff, does_iff]
  constructor
  · rintro ⟨w, hw, s⟩
    exact ⟨w, leastOf_mem O hw, s⟩
  · rintro ⟨w, hw, s⟩
    obtain ⟨v, hv, s'⟩ := leastOf_below O hw
    exact ⟨v, hv, s'.trans s⟩
/-- two bases that the same logs do are one -/
theorem base_unique {b c : List (List α)} (hb : Base O b) (hc : Base O c) (h : ∀ l, does b l = does c l) : b = c := by
  have sub : ∀ {b c : List (List α)}, Base O b → Base O c → (∀ l, does b l = does c l) → ∀ x ∈ b, x ∈ c := fun {b c} hb hc h x hx => by
    have d : does c x = true := (h x).symm.trans (does_mem hx)
    obtain ⟨w, hw, s⟩ := (does_iff c x).mp d
    have d' : does b w = true := (h w).trans (does_mem hw)
    obtain ⟨v, hv, s'⟩ := (does_iff b w).mp d'
    have e := hb.anti v hv x hx (s'.trans s)
    subst e
    have e2 : w = v := List.Sublist.eq_of_length_le s s'.length_le
    rw [← e2]
    exact hw
  exact inc_unique O hb.inc hc.inc fun x => ⟨sub hb hc h x, sub hc hb (fun l => (h l).symm) x⟩
theorem leastOf_self {b : List (List α)} (hb : Base O b) : leastOf O b = b := base_unique O (leastOf_base O b) hb (does_leastOf O b)
theorem leastOf_congr {l m : List (List α)} (h : ∀ x, x ∈ l ↔ x ∈ m) : leastOf O l = leastOf O m := by
  unfold leastOf
  rw [inOrder_congr O h]
theorem base_nodup {b : List (List α)} (hb : Base O b) : b.Nodup := inc_nodup O hb.inc
end
end MkM
/-! ## MkText -/
set_option autoImplicit true
set_option Elab.async false
set_option linter.all false
set_option maxRecDepth 100000
namespace Mk
open PySem PySem.Spec PyProof.Rows L2
/-! ### the text by places -/
def top (i : Nat) : Stmt := PySem.Challenge.pw_moredone_k59_whole_asked_till_one_is_lef.main.body.getD i (.Pass (Pos.mk 0 0 0 0))
abbrev st_tupled : Stmt := top 6
def dd_tupled : He.DefD := ⟨("tupled", none), "tupled", "tupled", defArgs st_tupled, defBody st_tupled, defScope st_tupled, [], []⟩
abbrev st_begun : Stmt := top 8
def dd_begun : He.DefD := ⟨("begun", none), "begun", "begun", defArgs st_begun, defBody st_begun, defScope st_begun, [], []⟩
abbrev st_is_part : Stmt := top 9
def dd_is_part : He.DefD := ⟨("is_part", none), "is_part", "is_part", defArgs st_is_part, defBody st_is_part, defScope st_is_part, [], []⟩
abbrev st_in_order : Stmt := top 10
def dd_in_order : He.DefD := ⟨("in_order", none), "in_order", "in_order", defArgs st_in_order, defBody st_in_order, defScope st_in_order, [], []⟩
abbrev st_least_of : Stmt := top 11
def dd_least_of : He.DefD := ⟨("least_of", none), "least_of", "least_of", defArgs st_least_of, defBody st_least_of, defScope st_least_of, [], []⟩
abbrev st_base_of : Stmt := top 14
def dd_base_of : He.DefD := ⟨("base_of", none), "base_of", "base_of", defArgs st_base_of, defBody st_base_of, defScope st_base_of, [], []⟩
abbrev st_does : Stmt := top 15
def dd_does : He.DefD := ⟨("does", none), "does", "does", defArgs st_does, defBody st_does, defScope st_does, [], []⟩
abbrev st_step : Stmt := top 17
def dd_step : He.DefD := ⟨("step", none), "step", "step", defArgs st_step, defBody st_step, defScope st_step, [], []⟩
abbrev st_short_logs : Stmt := top 19
def dd_short_logs : He.DefD := ⟨("short_logs", none), "short_logs", "short_logs", defArgs st_short_logs, defBody st_short_logs, defScope st_short_logs, [], []⟩
abbrev st_F_init : Stmt := inClass (top 20) 0
def dd_F_init : He.DefD := ⟨("Finder", some "__init__"), "__init__", "Finder.__init__", defArgs st_F_init, defBody st_F_init, defScope st_F_init, [], []⟩
abbrev st_F_keep : Stmt := inClass (top 20) 1
def dd_F_keep : He.DefD := ⟨("Finder", some "keep"), "keep", "Finder.keep", defArgs st_F_keep, defBody st_F_keep, defScope st_F_keep, [], []⟩
abbrev st_F_check : Stmt := inClass (top 20) 2
def dd_F_check : He.DefD := ⟨("Finder", some "check"), "check", "Finder.check", defArgs st_F_check, defBody st_F_check, defScope st_F_check, [], []⟩
abbrev st_F_answered : Stmt := inClass (top 20) 3
def dd_F_answered : He.DefD := ⟨("Finder", some "answered"), "answered", "Finder.answered", defArgs st_F_answered, defBody st_F_answered, defScope st_F_answered, [], []⟩
abbrev st_F_greatest : Stmt := inClass (top 20) 4
def dd_F_greatest : He.DefD := ⟨("Finder", some "greatest"), "greatest", "Finder.greatest", defArgs st_F_greatest, defBody st_F_greatest, defScope st_F_greatest, [], []⟩
abbrev st_F_forced : Stmt := inClass (top 20) 5
def dd_F_forced : He.DefD := ⟨("Finder", some "forced"), "forced", "Finder.forced", defArgs st_F_forced, defBody st_F_forced, defScope st_F_forced, [], []⟩
abbrev st_F_found : Stmt := inClass (top 20) 6
def dd_F_found : He.DefD := ⟨("Finder", some "found"), "found", "Finder.found", defArgs st_F_found, defBody st_F_found, defScope st_F_found, [], []⟩
abbrev st_F_another : Stmt := inClass (top 20) 7
def dd_F_another : He.DefD := ⟨("Finder", some "another"), "another", "Finder.another", defArgs st_F_another, defBody st_F_another, defScope st_F_another, [], []⟩
abbrev st_F_sure : Stmt := inClass (top 20) 8
def dd_F_sure : He.DefD := ⟨("Finder", some "sure"), "sure", "Finder.sure", defArgs st_F_sure, defBody st_F_sure, defScope st_F_sure, [], []⟩
abbrev st_F_next_ask : Stmt := inClass (top 20) 9
def dd_F_next_ask : He.DefD := ⟨("Finder", some "next_ask"), "next_ask", "Finder.next_ask", defArgs st_F_next_ask, defBody st_F_next_ask, defScope st_F_next_ask, [], []⟩
abbrev st_F_asks : Stmt := inClass (top 20) 10
def dd_F_asks : He.DefD := ⟨("Finder", some "asks"), "asks", "Finder.asks", defArgs st_F_asks, defBody st_F_asks, defScope st_F_asks, [], []⟩
abbrev st_F_len : Stmt := inClass (top 20) 12
def dd_F_len : He.DefD := ⟨("Finder", some "__len__"), "__len__", "Finder.__len__", defArgs st_F_len, defBody st_F_len, defScope st_F_len, [], []⟩
abbrev st_parts_in : Stmt := top 21
def dd_parts_in : He.DefD := ⟨("parts_in", none), "parts_in", "parts_in", defArgs st_parts_in, defBody st_parts_in, defScope st_parts_in, [], []⟩
abbrev st_open_logs : Stmt := top 22
def dd_open_logs : He.DefD := ⟨("open_logs", none), "open_logs", "open_logs", defArgs st_open_logs, defBody st_open_logs, defScope st_open_logs, [], []⟩
abbrev st_sure_by : Stmt := top 23
def dd_sure_by : He.DefD := ⟨("sure_by", none), "sure_by", "sure_by", defArgs st_sure_by, defBody st_sure_by, defScope st_sure_by, [], []⟩
abbrev st_shows : Stmt := top 24
def dd_shows : He.DefD := ⟨("shows", none), "shows", "shows", defArgs st_shows, defBody st_shows, defScope st_shows, [], []⟩
abbrev st_undone_logs : Stmt := top 25
def dd_undone_logs : He.DefD := ⟨("undone_logs", none), "undone_logs", "undone_logs", defArgs st_undone_logs, defBody st_undone_logs, defScope st_undone_logs, [], []⟩
abbrev st_fewest_cover : Stmt := top 26
def dd_fewest_cover : He.DefD := ⟨("fewest_cover", none), "fewest_cover", "fewest_cover", defArgs st_fewest_cover, defBody st_fewest_cover, defScope st_fewest_cover, [], []⟩
abbrev st_paper : Stmt := top 27
def dd_paper : He.DefD := ⟨("paper", none), "paper", "paper", defArgs st_paper, defBody st_paper, defScope st_paper, [], []⟩
abbrev st_l_box : Stmt := top 29
def dd_l_box : He.DefD := ⟨("_law_box", none), "_law_box", "_law_box", defArgs st_l_box, defBody st_l_box, defScope st_l_box, [], []⟩
abbrev st_l_take : Stmt := top 30
def dd_l_take : He.DefD := ⟨("_law_take", none), "_law_take", "_law_take", defArgs st_l_take, defBody st_l_take, defScope st_l_take, [], []⟩
abbrev st_l_cells : Stmt := top 31
def dd_l_cells : He.DefD := ⟨("_law_cells", none), "_law_cells", "_law_cells", defArgs st_l_cells, defBody st_l_cells, defScope st_l_cells, [], []⟩
abbrev st_l_of : Stmt := top 32
def dd_l_of : He.DefD := ⟨("_law_of", none), "_law_of", "_law_of", defArgs st_l_of, defBody st_l_of, defScope st_l_of, [], []⟩
abbrev st_l_pick : Stmt := top 33
def dd_l_pick : He.DefD := ⟨("_law_pick", none), "_law_pick", "_law_pick", defArgs st_l_pick, defBody st_l_pick, defScope st_l_pick, [], []⟩
abbrev st_l_same : Stmt := top 34
def dd_l_same : He.DefD := ⟨("_law_same", none), "_law_same", "_law_same", defArgs st_l_same, defBody st_l_same, defScope st_l_same, [], []⟩
abbrev st_l_names : Stmt := top 35
def dd_l_names : He.DefD := ⟨("_law_names", none), "_law_names", "_law_names", defArgs st_l_names, defBody st_l_names, defScope st_l_names, [], []⟩
abbrev st_l_lies : Stmt := top 36
def dd_l_lies : He.DefD := ⟨("_law_lies", none), "_law_lies", "_law_lies", defArgs st_l_lies, defBody st_l_lies, defScope st_l_lies, [], []⟩
abbrev st_l_sorted : Stmt := top 37
def dd_l_sorted : He.DefD := ⟨("_law_sorted", none), "_law_sorted", "_law_sorted", defArgs st_l_sorted, defBody st_l_sorted, defScope st_l_sorted, [], []⟩
abbrev st_l_least : Stmt := top 38
def dd_l_least : He.DefD := ⟨("_law_least", none), "_law_least", "_law_least", defArgs st_l_least, defBody st_l_least, defScope st_l_least, [], []⟩
abbrev st_l_event_row : Stmt := top 39
def dd_l_event_row : He.DefD := ⟨("_law_event_row", none), "_law_event_row", "_law_event_row", defArgs st_l_event_row, defBody st_l_event_row, defScope st_l_event_row, [], []⟩
abbrev st_l_some_rows : Stmt := top 40
def dd_l_some_rows : He.DefD := ⟨("_law_some_rows", none), "_law_some_rows", "_law_some_rows", defArgs st_l_some_rows, defBody st_l_some_rows, defScope st_l_some_rows, [], []⟩
abbrev st_l_done : Stmt := top 41
def dd_l_done : He.DefD := ⟨("_law_done", none), "_law_done", "_law_done", defArgs st_l_done, defBody st_l_done, defScope st_l_done, [], []⟩
abbrev st_l_within : Stmt := top 42
def dd_l_within : He.DefD := ⟨("_law_within", none), "_law_within", "_law_within", defArgs st_l_within, defBody st_l_within, defScope st_l_within, [], []⟩
abbrev st_l_way_right : Stmt := top 43
def dd_l_way_right : He.DefD := ⟨("_law_way_right", none), "_law_way_right", "_law_way_right", defArgs st_l_way_right, defBody st_l_way_right, defScope st_l_way_right, [], []⟩
abbrev st_l_again : Stmt := top 44
def dd_l_again : He.DefD := ⟨("_law_again", none), "_law_again", "_law_again", defArgs st_l_again, defBody st_l_again, defScope st_l_again, [], []⟩
abbrev st_l_paper_right : Stmt := top 45
def dd_l_paper_right : He.DefD := ⟨("_law_paper_right", none), "_law_paper_right", "_law_paper_right", defArgs st_l_paper_right, defBody st_l_paper_right, defScope st_l_paper_right, [], []⟩
abbrev st_l_asked_right : Stmt := top 46
def dd_l_asked_right : He.DefD := ⟨("_law_asked_right", none), "_law_asked_right", "_law_asked_right", defArgs st_l_asked_right, defBody st_l_asked_right, defScope st_l_asked_right, [], []⟩
abbrev st_l_by_hand_right : Stmt := top 47
def dd_l_by_hand_right : He.DefD := ⟨("_law_by_hand_right", none), "_law_by_hand_right", "_law_by_hand_right", defArgs st_l_by_hand_right, defBody st_l_by_hand_right, defScope st_l_by_hand_right, [], []⟩
abbrev st_l_right : Stmt := top 48
def dd_l_right : He.DefD := ⟨("_law_right", none), "_law_right", "_law_right", defArgs st_l_right, defBody st_l_right, defScope st_l_right, [], []⟩
abbrev st_law : Stmt := top 49
def dd_law : He.DefD := ⟨("law", none), "law", "law", defArgs st_law, defBody st_law, defScope st_law, [], []⟩
def fn : List He.DefD := [dd_tupled, dd_begun, dd_is_part, dd_in_order, dd_least_of, dd_base_of, dd_does, dd_step, dd_short_logs, dd_F_init, dd_F_keep, dd_F_check, dd_F_answered, dd_F_greatest, dd_F_forced, dd_F_found, dd_F_another, dd_F_sure, dd_F_next_ask, dd_F_asks, dd_F_len, dd_parts_in, dd_open_logs, dd_sure_by, dd_shows, dd_undone_logs, dd_fewest_cover, dd_paper, dd_l_box, dd_l_take, dd_l_cells, dd_l_of, dd_l_pick, dd_l_same, dd_l_names, dd_l_lies, dd_l_sorted, dd_l_least, dd_l_event_row, dd_l_some_rows, dd_l_done, dd_l_within, dd_l_way_right, dd_l_again, dd_l_paper_right, dd_l_asked_right, dd_l_by_hand_right, dd_l_right, dd_law]
def fa : List He.Fa := ([.glo "tupled", .glo "begun", .glo "is_part", .glo "in_order", .glo "least_of", .glo "base_of", .glo "does", .glo "step", .glo "short_logs", .glo "parts_in", .glo "open_logs", .glo "sure_by", .glo "shows", .glo "undone_logs", .glo "fewest_cover", .glo "paper", .glo "_law_box", .glo "_law_take", .glo "_law_cells", .glo "_law_of", .glo "_law_pick", .glo "_law_same", .glo "_law_names", .glo "_law_lies"] : List He.Fa) ++ ([.glo "_law_sorted", .glo "_law_least", .glo "_law_event_row", .glo "_law_some_rows", .glo "_law_done", .glo "_law_within", .glo "_law_way_right", .glo "_law_again", .glo "_law_paper_right", .glo "_law_asked_right", .glo "_law_by_hand_right", .glo "_law_right", .glo "law", .glo "Finder", .glo "ALWAYS", .mkr "Finder", .cls "Finder", .meth "Finder" "__init__", .meth "Finder" "keep", .meth "Finder" "check", .meth "Finder" "answered", .meth "Finder" "greatest", .meth "Finder" "forced", .meth "Finder" "found"] : List He.Fa) ++ ([.meth "Finder" "another", .meth "Finder" "sure", .meth "Finder" "next_ask", .meth "Finder" "asks", .meth "Finder" "__len__", .noat "Finder" "own_names", .noat "Finder" "own_most", .noat "Finder" "own_short", .noat "Finder" "own_asks", .noat "Finder" "own_whole", .free "len", .free "any", .free "all", .free "tuple", .free "list", .free "sorted", .free "set", .free "isinstance", .free "range", .free "abs", .free "int", .free "min", .free "enumerate", .free "zip", .free "bool", .free "str"] : List He.Fa)
/-- the inner tuple of ALWAYS -/
def alw0 (K : PySem.W.Frag) : Addr := match K.lookup (He.ga K "ALWAYS") with
  | some o => (match o.data with
    | .seq its _ => (match its.toList with
      | [.ref a] => a
      | _ => 0)
    | _ => 0)
  | none => 0
def emptyTup (K : PySem.W.Frag) (a : Addr) : Bool := match K.lookup a with
  | some o => decide (o.cls = .type "tuple") && (match o.data with
    | .seq its _ => its.isEmpty
    | _ => false)
  | none => false
def ex (K : PySem.W.Frag) : Bool := He.tupB K "ALWAYS" [.adr alw0] && emptyTup K (alw0 K)
theorem emptyTup_ok {K : PySem.W.Frag} {a : Addr} (h : emptyTup K a = true) (H : Hp) : SqT K H a [] := by
  unfold emptyTup at h
  cases q : K.lookup a with
  | none =>
    rw [q] at h
    cases h
  | some o =>
    obtain ⟨oc, od, dt, sl⟩ := o
    rw [q] at h
    obtain ⟨h1, h2⟩ := He.ba h
    cases dt with
    | seq its n =>
      have e : its = #[] := Array.isEmpty_iff.mp h2
      subst e
      exact .inr ⟨_, #[], n, q, of_decide_eq_true h1, rfl, Nat.zero_le _, .nil⟩
    | _ => cases h2
end Mk
/-! ## MkLayer -/
set_option autoImplicit true
set_option Elab.async false
set_option linter.all false
set_option maxRecDepth 100000
set_option maxHeartbeats 4000000
/-! A layer over HandS: what is known of data (G), kept apart from what may change (H). -/
namespace Mk
open PySem PySem.Spec PyProof.Rows L2
abbrev St := L2.St
/-! ### data -/
mutual
theorem dp_mono {K : PySem.W.Frag} {H H' : Hp} (e : Same H H') : ∀ (d : PyData) (v : V), Dp K H v d → Dp K H' v d
  | .none, _, h => by cases h; exact .non
  | .bool b, _, h => by cases h; exact .bl b
  | .int i, _, h => by cases h; exact .int i
  | .str x, _, h => by cases h; exact .str x
  | .list ds, _, h => by
    cases h with
    | lst hs ha => exact .lst (e.seq hs) (dpa_mono e ds _ ha)
  | .tuple ds, _, h => by
    cases h with
    | tup hs ha =>
      refine .tup ?_ (dpa_mono e ds _ ha)
      rcases hs with (h | ⟨o, h⟩) | h
      · exact .inl (.inl (e _ _ h))
      · exact .inl (.inr ⟨o, e _ _ h⟩)
      · exact .inr h
  | .dict _, _, h => by cases h
theorem dpa_mono {K : PySem.W.Frag} {H H' : Hp} (e : Same H H') : ∀ (ds : List PyData) (vs : List V), DpAll K H vs ds → DpAll K H' vs ds
  | [], _, h => by cases h; exact .nil
  | d :: ds, _, h => by
    cases h with
    | cons a b => exact .cons (dp_mono e d _ a) (dpa_mono e ds _ b)
end
section
variable {K : PySem.W.Frag} {H H' G G' : Hp} {a p : Addr} {xs : List V} {v : V} {d : PyData} {ds : List PyData}
theorem Same.sqT (e : Same H H') (h : SqT K H a xs) : SqT K H' a xs := by
  rcases h with (h | ⟨o, h⟩) | h
  · exact .inl (.inl (e _ _ h))
  · exact .inl (.inr ⟨o, e _ _ h⟩)
  · exact .inr h
theorem dpa_len : ∀ {vs : List V} {ds : List PyData}, DpAll K H vs ds → vs.length = ds.length
  | _, _, .nil => rfl
  | _, _, .cons _ t => by rw [List.length_cons, List.length_cons, dpa_len t]
theorem dpa_get : ∀ {vs : List V} {ds : List PyData} {i : Nat} {d : PyData}, DpAll K H vs ds → ds[i]? = some d → ∃ v, vs[i]? = some v ∧ Dp K H v d
  | _, _, _, _, .nil, e => by simp at e
  | _, _, 0, _, .cons a _, e => by
    have e' := Option.some.inj (by simpa using e)
    subst e'
    exact ⟨_, rfl, a⟩
  | _, _, i + 1, _, .cons _ t, e => dpa_get (i := i) t (by simpa using e)
theorem dpa_app : ∀ {vs ws : List V} {ds es : List PyData}, DpAll K H vs ds → DpAll K H ws es → DpAll K H (vs ++ ws) (ds ++ es)
  | _, _, _, _, .nil, h => h
  | _, _, _, _, .cons a t, h => .cons a (dpa_app t h)
theorem dpa_take : ∀ (n : Nat) {vs : List V} {ds : List PyData}, DpAll K H vs ds → DpAll K H (vs.take n) (ds.take n)
  | 0, _, _, _ => .nil
  | _ + 1, _, _, .nil => .nil
  | n + 1, _, _, .cons a t => .cons a (dpa_take n t)
theorem dpa_drop : ∀ (n : Nat) {vs : List V} {ds : List PyData}, DpAll K H vs ds → DpAll K H (vs.drop n) (ds.drop n)
  | 0, _, _, h => h
  | _ + 1, _, _, .nil => .nil
  | n + 1, _, _, .cons _ t => dpa_drop n t
theorem dpa_rev : ∀ {vs : List V} {ds : List PyData}, DpAll K H vs ds → DpAll K H vs.reverse ds.reverse
  | _, _, .nil => .nil
  | _, _, .cons a t => by
    rw [List.reverse_cons, List.reverse_cons]
    exact dpa_app (dpa_rev t) (.cons a .nil)
theorem dpa_erase : ∀ (n : Nat) {vs : List V} {ds : List PyData}, DpAll K H vs ds → DpAll K H (vs.eraseIdx n) (ds.eraseIdx n)
  | _, _, _, .nil => .nil
  | 0, _, _, .cons a t => t
  | n + 1, _, _, .cons a t => .cons a (dpa_erase n t)
theorem dpa_one (h : DpAll K H xs [d]) : ∃ v, xs = [v] ∧ Dp K H v d := by
  cases h with
  | cons a t =>
    cases t
    exact ⟨_, rfl, a⟩
theorem dpa_two {d e : PyData} (h : DpAll K H xs [d, e]) : ∃ v u, xs = [v, u] ∧ Dp K H v d ∧ Dp K H u e := by
  cases h with
  | cons a t =>
    cases t with
    | cons b t =>
      cases t
      exact ⟨_, _, rfl, a, b⟩
theorem dpa_three {d e f : PyData} (h : DpAll K H xs [d, e, f]) : ∃ v u w, xs = [v, u, w] ∧ Dp K H v d ∧ Dp K H u e ∧ Dp K H w f := by
  cases h with
  | cons a t =>
    cases t with
    | cons b t =>
      cases t with
      | cons c t =>
        cases t
        exact ⟨_, _, _, rfl, a, b, c⟩
theorem dpa_four {d e f g : PyData} (h : DpAll K H xs [d, e, f, g]) : ∃ v u w x, xs = [v, u, w, x] ∧ Dp K H v d ∧ Dp K H u e ∧ Dp K H w f ∧ Dp K H x g := by
  cases h with
  | cons a t =>
    obtain ⟨u, w, x, rfl, h1, h2, h3⟩ := dpa_three t
    exact ⟨_, u, w, x, rfl, a, h1, h2, h3⟩
theorem dp_list (h : Dp K H v (.list ds)) : ∃ a xs, v = .ref a ∧ SqL K H a xs ∧ DpAll K H xs ds := by
  cases h with
  | lst hs ha => exact ⟨_, _, rfl, hs, ha⟩
theorem dp_tup (h : Dp K H v (.tuple ds)) : ∃ a xs, v = .ref a ∧ SqT K H a xs ∧ DpAll K H xs ds := by
  cases h with
  | tup hs ha => exact ⟨_, _, rfl, hs, ha⟩
theorem dp_int {i : Int} (h : Dp K H v (.int i)) : v = .int i := by cases h; rfl
theorem dp_bool {b : Bool} (h : Dp K H v (.bool b)) : v = .bl b := by cases h; rfl
theorem dp_str {x : Str} (h : Dp K H v (.str x)) : v = .str x := by cases h; rfl
theorem dp_none (h : Dp K H v .none) : v = .non := by cases h; rfl
/-! ### growth -/
/-- G known, H what stands: both grow; what is not in B is kept; new knowledge is of new objects -/
structure Grow (B : Addr → Prop) (G H G' H' : Hp) : Prop where
  g : Same G G'
  h : ∀ a o, ¬ B a → H a = some o → H' a = some o
  s : Same G' H'
  n : ∀ a o, G' a = some o → H a = none ∨ G a = some o
  t : ∀ a, H a ≠ none → H' a ≠ none
abbrev B0 : Addr → Prop := fun _ => False
variable {B : Addr → Prop} {G1 G2 H1 H2 : Hp}
theorem Grow.refl (e : Same G H) : Grow B G H G H := ⟨Same.refl G, fun _ _ _ h => h, e, fun _ _ h => .inr h, fun _ h => h⟩
theorem Grow.trans (x : Grow B G H G1 H1) (y : Grow B G1 H1 G2 H2) : Grow B G H G2 H2 where
  g := x.g.trans y.g
  h := fun a o b e => y.h a o b (x.h a o b e)
  s := y.s
  n := fun a o e => by
    rcases y.n a o e with z | z
    · refine .inl ?_
      cases q : H a with
      | none => rfl
      | some u => exact absurd z (x.t a (by rw [q]; exact fun w => nomatch w))
    · exact x.n a o z
  t := fun a e => y.t a (x.t a e)
theorem Grow.same (x : Grow B0 G H G1 H1) : Same H H1 := fun a o e => x.h a o (fun z => z) e
theorem Grow.wide (x : Grow B0 G H G1 H1) : Grow B G H G1 H1 := ⟨x.g, fun a o _ e => x.h a o (fun z => z) e, x.s, x.n, x.t⟩
theorem Same.noneOf (e : Same G H) (h : H p = none) : G p = none := e.free h
theorem upd_none {o : HO} (h : upd H p o a ≠ none ∨ H a = none) : True := trivial
theorem upd_some_of {o u : HO} (h : upd H p o a = some u) : (a = p ∧ o = u) ∨ (a ≠ p ∧ H a = some u) := by
  by_cases e : a = p
  · subst e
    rw [upd_same] at h
    exact .inl ⟨rfl, Option.some.inj h⟩
  · rw [upd_ne e] at h
    exact .inr ⟨e, h⟩
theorem same_new {o : HO} (h : H p = none) : Same H (upd H p o) := fun b x e => by
  rw [upd_ne (ne_of_none e h)]
  exact e
theorem same_both {o : HO} (e : Same G H) : Same (upd G p o) (upd H p o) := fun b x q => by
  rcases upd_some_of q with ⟨rfl, rfl⟩ | ⟨ne, q⟩
  · exact upd_same
  · rw [upd_ne ne]
    exact e b x q
theorem upd_nn {o : HO} (h : H a ≠ none) : upd H p o a ≠ none := by
  by_cases e : a = p
  · rw [e, upd_same]
    exact fun z => nomatch z
  · rw [upd_ne e]
    exact h
/-- a new object, known from now on -/
theorem Grow.new {o : HO} (e : Same G H) (h : H p = none) : Grow B G H (upd G p o) (upd H p o) where
  g := same_new (e.free h)
  h := fun a u _ q => same_new h a u q
  s := same_both e
  n := fun a u q => by
    rcases upd_some_of q with ⟨rfl, rfl⟩ | ⟨_, q⟩
    · exact .inl h
    · exact .inr q
  t := fun a q => upd_nn q
/-- an object that is not known may change: it is new since, or in B -/
theorem Grow.mut {o : HO} (x : Grow B G H G1 H1) (h : H p = none ∨ B p) (hg : G1 p = none) : Grow B G H G1 (upd H1 p o) where
  g := x.g
  h := fun a u b q => by
    have ne : a ≠ p := fun z => by
      subst z
      rcases h with h | h
      · rw [h] at q
        cases q
      · exact b h
    rw [upd_ne ne]
    exact x.h a u b q
  s := fun a u q => by
    rw [upd_ne (ne_of_none q hg)]
    exact x.s a u q
  n := x.n
  t := fun a q => upd_nn (x.t a q)
/-- an object made since is known from now on -/
theorem Grow.know {o : HO} (x : Grow B G H G1 H1) (h : H p = none) (hp : H1 p = some o) (e : Same G H) : Grow B G H (upd G1 p o) H1 where
  g := fun a u q => by
    rw [upd_ne (ne_of_none q (e.free h))]
    exact x.g a u q
  h := x.h
  s := fun a u q => by
    rcases upd_some_of q with ⟨rfl, rfl⟩ | ⟨_, q⟩
    · exact hp
    · exact x.s a u q
  n := fun a u q => by
    rcases upd_some_of q with ⟨rfl, rfl⟩ | ⟨_, q⟩
    · exact .inl h
    · exact x.n a u q
  t := x.t
theorem Grow.none1 (x : Grow B G H G1 H1) (h : H p ≠ none) (hg : G p = none) : G1 p = none := by
  cases q : G1 p with
  | none => rfl
  | some o =>
    rcases x.n p o q with z | z
    · exact absurd z h
    · rw [hg] at z
      cases z
end
/-! ### what may change while an expression is evaluated -/
structure Ctx where
  B : Addr → Prop
  P : Addr → Prop
  J : Hp → Prop
  bp : ∀ a, B a → P a
  tr : ∀ H a, J H → P a → H a ≠ none
  up : ∀ H H', J H → (∀ a o, P a → H a = some o → H' a = some o) → J H'
def c0 : Ctx := ⟨B0, B0, fun _ => True, fun _ h => h, fun _ _ _ h => h.elim, fun _ _ _ _ => trivial⟩
theorem Ctx.same (c : Ctx) {H H' : Hp} (j : c.J H) (e : Same H H') : c.J H' := c.up H H' j fun a o _ q => e a o q
theorem Ctx.new (c : Ctx) {H : Hp} {p : Addr} {o : HO} (j : c.J H) (h : H p = none) : c.J (upd H p o) := c.same j (same_new h)
theorem Ctx.mut (c : Ctx) {H : Hp} {p : Addr} {o : HO} (j : c.J H) (h : ¬ c.P p) : c.J (upd H p o) := c.up _ _ j fun a u pa q => by
  have ne : a ≠ p := fun z => h (by rw [← z]; exact pa)
  rw [upd_ne ne]
  exact q
theorem Ctx.notP (c : Ctx) {H : Hp} {p : Addr} (j : c.J H) (h : H p = none) : ¬ c.P p := fun z => c.tr H p j z h
section
variable (c : Ctx) (K : PySem.W.Frag)
/-- the expression's value is data of which φ holds -/
def Ev (te : TE) (σ : St) (G : Hp) (φ : PyData → Prop) : Prop := ∀ G0 H, Same G G0 → Same G0 H → c.J H → ∀ Q : VK,
  (∀ v d G1 H1, Grow c.B G0 H G1 H1 → c.J H1 → Dp K G1 v d → φ d → Q v H1) → te σ H Q
def EvT (tt : TT) (σ : St) (G : Hp) (φ : Bool → Prop) : Prop := ∀ G0 H, Same G G0 → Same G0 H → c.J H → ∀ Q : Bool → Hp → Prop,
  (∀ b G1 H1, Grow c.B G0 H G1 H1 → c.J H1 → φ b → Q b H1) → tt σ H Q
/-- values: Φ says what is known of them -/
def EvA (ta : TA) (σ : St) (G : Hp) (Φ : Hp → List V → Prop) : Prop := ∀ G0 H, Same G G0 → Same G0 H → c.J H → ∀ Q : List V → Hp → Prop,
  (∀ vs G1 H1, Grow c.B G0 H G1 H1 → c.J H1 → Φ G1 vs → Q vs H1) → ta σ H Q
/-- what an iterator yields -/
structure Src (J : It) (G : Hp) (ds : List PyData) : Prop where
  go : ∀ i H, Same G H → i < ds.length → J.go i H
  stop : ∀ i H, Same G H → ds.length ≤ i → J.stop i H
  yld : ∀ i H x H' G0 d, Same G G0 → Same G0 H → ds[i]? = some d → J.yld i H x H' → ∃ G1, Grow B0 G0 H G1 H' ∧ Dp K G1 x d
def EvS (wi : TI) (σ : St) (G : Hp) (φ : List PyData → Prop) : Prop := ∀ G0 H, Same G G0 → Same G0 H → c.J H → ∀ R : It → Hp → Prop,
  (∀ J ds G1 H1, Grow c.B G0 H G1 H1 → c.J H1 → Src K J G1 ds → φ ds → R J H1) → wi σ H R
end
abbrev is {α : Type} (d : α) : α → Prop := fun x => x = d
section
variable {c : Ctx} {K : PySem.W.Frag} {σ : St} {G G' : Hp} {te ta tb tl : TE} {tt tu : TT} {φ ψ χ : PyData → Prop} {d e : PyData}
theorem Ev.mono (h : Ev c K te σ G φ) (g : Same G G') : Ev c K te σ G' φ := fun G0 H a b j Q q => h G0 H (g.trans a) b j Q q
theorem Ev.imp (h : Ev c K te σ G φ) (f : ∀ d, φ d → ψ d) : Ev c K te σ G ψ := fun G0 H a b j Q q => h G0 H a b j Q fun v d G1 H1 x y z w => q v d G1 H1 x y z (f d w)
theorem Ev.to {d e : PyData} (h : Ev c K te σ G (is d)) (w : d = e) : Ev c K te σ G (is e) := by rw [← w]; exact h
theorem EvT.mono {φ : Bool → Prop} (h : EvT c tt σ G φ) (g : Same G G') : EvT c tt σ G' φ := fun G0 H a b j Q q => h G0 H (g.trans a) b j Q q
theorem EvT.to {a b : Bool} (h : EvT c tt σ G (is a)) (w : a = b) : EvT c tt σ G (is b) := by rw [← w]; exact h
theorem EvA.mono {t : TA} {Φ : Hp → List V → Prop} (h : EvA c t σ G Φ) (g : Same G G') : EvA c t σ G' Φ := fun G0 H a b j Q q => h G0 H (g.trans a) b j Q q
/-- what holds with nothing changing holds everywhere -/
theorem Ev.lift (h : Ev c0 K te σ G φ) : Ev c K te σ G φ := fun G0 H a b j Q q => h G0 H a b trivial Q fun v d G1 H1 x _ z w => q v d G1 H1 x.wide (c.same j x.same) z w
theorem EvT.lift {φ : Bool → Prop} (h : EvT c0 tt σ G φ) : EvT c tt σ G φ := fun G0 H a b j Q q => h G0 H a b trivial Q fun v G1 H1 x _ w => q v G1 H1 x.wide (c.same j x.same) w
/-! ### names, constants -/
theorem ev_var {i : Nat} {v : V} (h : σ[i]? = some (some v)) (hd : Dp K G v d) : Ev c K (tVar i) σ G (is d) :=
  fun G0 H a b j Q q => ⟨v, h, q v d G0 H (Grow.refl b) j (dp_mono a _ _ hd) rfl⟩
theorem ev_C {v : V} (hd : Dp K G v d) : Ev c K (tC v) σ G (is d) := fun G0 H a b j Q q => q v d G0 H (Grow.refl b) j (dp_mono a _ _ hd) rfl
theorem ev_int {i : Int} : Ev c K (tC (.int i)) σ G (is (.int i)) := ev_C (.int i)
theorem ev_bl {b : Bool} : Ev c K (tC (.bl b)) σ G (is (.bool b)) := ev_C (.bl b)
theorem ev_non : Ev c K (tC .non) σ G (is .none) := ev_C .non
theorem ev_str {x : Str} : Ev c K (tC (.str x)) σ G (is (.str x)) := ev_C (.str x)
/-! ### operators -/
/-- an operator whose result leaves the heap as it is -/
theorem ev_op {r : R2} (ha : Ev c K ta σ G φ) (hb : Ev c K tb σ G ψ) (hr : ∀ G1 H1 x y d e, Same G1 H1 → Dp K G1 x d → Dp K G1 y e → φ d → ψ e → ∀ Q : VK, (∀ z f, Dp K G1 z f → χ f → Q z H1) → r x y H1 Q) : Ev c K (tOp r ta tb) σ G χ :=
  fun G0 H a b j Q q => ha G0 H a b j _ fun x d G1 H1 g1 j1 d1 p1 => hb G1 H1 (a.trans g1.g) g1.s j1 _ fun y e G2 H2 g2 j2 d2 p2 =>
    hr G2 H2 x y d e g2.s (dp_mono g2.g _ _ d1) d2 p1 p2 Q fun z f z1 z2 => q z f G2 H2 (g1.trans g2) j2 z1 z2
/-- .. that may make a new object -/
theorem ev_opN {r : R2} (ha : Ev c K ta σ G φ) (hb : Ev c K tb σ G ψ) (hr : ∀ G1 H1 x y d e, Same G1 H1 → Dp K G1 x d → Dp K G1 y e → φ d → ψ e → ∀ Q : VK, (∀ z f G2 H2, Grow B0 G1 H1 G2 H2 → Dp K G2 z f → χ f → Q z H2) → r x y H1 Q) : Ev c K (tOp r ta tb) σ G χ :=
  fun G0 H a b j Q q => ha G0 H a b j _ fun x d G1 H1 g1 j1 d1 p1 => hb G1 H1 (a.trans g1.g) g1.s j1 _ fun y e G2 H2 g2 j2 d2 p2 =>
    hr G2 H2 x y d e g2.s (dp_mono g2.g _ _ d1) d2 p1 p2 Q fun z f G3 H3 g3 z1 z2 => q z f G3 H3 ((g1.trans g2).trans g3.wide) (c.same j2 g3.same) z1 z2
theorem ev_I0 {g : Int → Int → V} {i j : Int} (ha : Ev c K ta σ G (is (.int i))) (hb : Ev c K tb σ G (is (.int j))) (hd : ∀ G, Dp K G (g i j) d) : Ev c K (tOp (rI0 g) ta tb) σ G (is d) :=
  ev_op ha hb fun G1 H1 x y d' e' s1 h1 h2 p1 p2 Q q => by
    subst p1 p2
    exact ⟨i, j, dp_int h1, dp_int h2, q _ _ (hd G1) rfl⟩
theorem ev_I {C : Int → Int → Prop} {g : Int → Int → V} {i j : Int} (ha : Ev c K ta σ G (is (.int i))) (hb : Ev c K tb σ G (is (.int j))) (hc : C i j) (hd : ∀ G, Dp K G (g i j) d) : Ev c K (tOp (rI C g) ta tb) σ G (is d) :=
  ev_op ha hb fun G1 H1 x y d' e' s1 h1 h2 p1 p2 Q q => by
    subst p1 p2
    exact ⟨i, j, dp_int h1, dp_int h2, hc, q _ _ (hd G1) rfl⟩
abbrev good (d : PyData) : Prop := SeqAt.shaped d = true
theorem ev_eq (ha : Ev c K ta σ G (is d)) (hb : Ev c K tb σ G (is e)) (gd : good d) (ge : good e) : Ev c K (tOp (rEqD K) ta tb) σ G (is (.bool (PyData.eqv d e))) :=
  ev_op ha hb fun G1 H1 x y d' e' s1 h1 h2 p1 p2 Q q => by
    subst p1 p2
    exact ⟨_, _, dp_mono s1 _ _ h1, dp_mono s1 _ _ h2, gd, ge, q _ _ (.bl _) rfl⟩
theorem ev_ne (ha : Ev c K ta σ G (is d)) (hb : Ev c K tb σ G (is e)) (gd : good d) (ge : good e) : Ev c K (tOp (rNeD K) ta tb) σ G (is (.bool (!PyData.eqv d e))) :=
  ev_op ha hb fun G1 H1 x y d' e' s1 h1 h2 p1 p2 Q q => by
    subst p1 p2
    exact ⟨_, _, dp_mono s1 _ _ h1, dp_mono s1 _ _ h2, gd, ge, q _ _ (.bl _) rfl⟩
/-- x == y of ints, texts, bools, None by the scalar rule -/
theorem ev_eqS {x y : V} (ha : Ev c K ta σ G (is d)) (hb : Ev c K tb σ G (is e)) (hx : ∀ G v, Dp K G v d → v = x) (hy : ∀ G v, Dp K G v e → v = y) (hs : scal x y = true) : Ev c K (tOp rEq ta tb) σ G (is (.bool (decide (x = y)))) :=
  ev_op ha hb fun G1 H1 v u d' e' s1 h1 h2 p1 p2 Q q => by
    subst p1 p2
    rw [hx _ _ h1, hy _ _ h2]
    exact ⟨hs, q _ _ (.bl _) rfl⟩
theorem ev_neS {x y : V} (ha : Ev c K ta σ G (is d)) (hb : Ev c K tb σ G (is e)) (hx : ∀ G v, Dp K G v d → v = x) (hy : ∀ G v, Dp K G v e → v = y) (hs : scal x y = true) : Ev c K (tOp rNe ta tb) σ G (is (.bool (!decide (x = y)))) :=
  ev_op ha hb fun G1 H1 v u d' e' s1 h1 h2 p1 p2 Q q => by
    subst p1 p2
    rw [hx _ _ h1, hy _ _ h2]
    exact ⟨hs, q _ _ (.bl _) rfl⟩
end
end Mk
/-! ## MkLayer2 -/
set_option autoImplicit true
set_option Elab.async false
set_option linter.all false
set_option maxRecDepth 100000
set_option maxHeartbeats 4000000
namespace Mk
open PySem PySem.Spec PyProof.Rows L2
/-! ### x in a tuple of data -/
section
variable {X : Cx}
def rInT (K : PySem.W.Frag) : R2 := fun x y H Q => ∃ d ds, Dp K H x d ∧ Dp K H y (.tuple ds) ∧ SeqAt.shaped d = true ∧ SeqAt.shaped (.tuple ds) = true ∧ Q (.bl (ds.any fun z => PyData.eqv z d)) H
def rNotInT (K : PySem.W.Frag) : R2 := fun x y H Q => ∃ d ds, Dp K H x d ∧ Dp K H y (.tuple ds) ∧ SeqAt.shaped d = true ∧ SeqAt.shaped (.tuple ds) = true ∧ Q (.bl (!ds.any fun z => PyData.eqv z d)) H
theorem op_inT (hu : X.A.units + 65 < cLine) : OpR X (compareOp .In) (rInT X.K) := by
  intro pins s σ H x y v u Q I rx ry h
  obtain ⟨d, ds, hd, he, sd, se, q⟩ := h
  obtain ⟨as, r1⟩ := Dp.reads I d x v hd rx
  obtain ⟨bs, r2⟩ := Dp.reads I (.tuple ds) y u he ry
  exact SeqAt.in_tuple_reads r2 r1 (SeqAt.canLay_of_shaped se) (SeqAt.canLay_of_shaped sd) (room_in_shaped sd hu) ⟨.bl _, H, I, rfl, q⟩
theorem op_notInT (hu : X.A.units + 65 < cLine) : OpR X (compareOp .NotIn) (rNotInT X.K) := by
  intro pins s σ H x y v u Q I rx ry h
  obtain ⟨d, ds, hd, he, sd, se, q⟩ := h
  obtain ⟨as, r1⟩ := Dp.reads I d x v hd rx
  obtain ⟨bs, r2⟩ := Dp.reads I (.tuple ds) y u he ry
  exact SeqAt.notIn_tuple_reads r2 r1 (SeqAt.canLay_of_shaped se) (SeqAt.canLay_of_shaped sd) (room_in_shaped sd hu) ⟨.bl _, H, I, rfl, q⟩
/-- a list or a tuple is walked -/
def iSq (K : PySem.W.Frag) (tl : TE) : TI := fun σ H R => tl σ H fun x H1 => ∃ a, x = .ref a ∧ (((∃ xs, SqL K H1 a xs) ∧ R (Itl K a) H1) ∨ ((∃ xs, SqT K H1 a xs) ∧ R (Itt K a) H1))
theorem pi_sq {tg l : Expr} {tl : TE} (hl : PE X l tl) : PI X tg l (iSq X.K tl) := by
  refine ⟨fun pins s σ H R I h => ?_⟩
  refine thn (hl.run pins s σ H _ I h) fun v s1 ⟨x, H1, I1, r1, q1⟩ => ?_
  obtain ⟨a, e, q⟩ := q1
  subst e
  cases r1
  have fo : ∀ b ∈ [s1.heap.objs.size], FpOk X pins H1 b := fun b hb => by
    have e : b = s1.heap.objs.size := by simpa using hb
    subst e
    exact I1.fpOk (Nat.le_refl _) (I1.hok.fresh (Nat.le_refl _))
  rcases q with ⟨⟨xs, hq⟩, q⟩ | ⟨⟨xs, hq⟩, q⟩
  · obtain ⟨its, rv, p, hz⟩ := I1.list hq
    refine wpAny_pyIter_list p.isList ?_
    exact ⟨s1.heap.objs.size, [s1.heap.objs.size], _, _, H1, rfl, I1.kept (t' := s1.toks) fun b o e => Heap.get?_push_of_some _ e, turn_list a _, ⟨_, Heap.get?_push_size _ rfl, rfl, rfl⟩, fo, q⟩
  · obtain ⟨its, rv, p, hz⟩ := I1.tuple hq
    refine wpAny_pyIter_tuple (show s1.heap.IsTuple a its.toArray from p) ?_
    exact ⟨s1.heap.objs.size, [s1.heap.objs.size], _, _, H1, rfl, I1.kept (t' := s1.toks) fun b o e => Heap.get?_push_of_some _ e, turn_tuple a _, ⟨_, Heap.get?_push_size _ rfl, rfl, rfl⟩, fo, q⟩
end
/-- a tuple or a list -/
def sqD (t : Bool) (ds : List PyData) : PyData := if t = true then .tuple ds else .list ds
section
variable {c : Ctx} {K : PySem.W.Frag} {σ : St} {G G' H : Hp} {te ta tb tl : TE} {tt tu : TT} {φ ψ χ : PyData → Prop} {d e : PyData} {ds es : List PyData} {v : V}
theorem dp_sq {t : Bool} (h : Dp K H v (sqD t ds)) : ∃ a xs, v = .ref a ∧ (SqL K H a xs ∨ SqT K H a xs) ∧ DpAll K H xs ds := by
  cases t with
  | true =>
    obtain ⟨a, xs, h1, h2, h3⟩ := dp_tup h
    exact ⟨a, xs, h1, .inr h2, h3⟩
  | false =>
    obtain ⟨a, xs, h1, h2, h3⟩ := dp_list h
    exact ⟨a, xs, h1, .inl h2, h3⟩
theorem ev_inL (ha : Ev c K ta σ G (is d)) (hb : Ev c K tb σ G (is (.list ds))) (gd : good d) (ge : good (.list ds)) : Ev c K (tOp (rInD K) ta tb) σ G (is (.bool (ds.any fun z => PyData.eqv z d))) :=
  ev_op ha hb fun G1 H1 x y d' e' s1 h1 h2 p1 p2 Q q => by
    subst p1 p2
    exact ⟨_, _, dp_mono s1 _ _ h1, dp_mono s1 _ _ h2, gd, ge, q _ _ (.bl _) rfl⟩
theorem ev_niL (ha : Ev c K ta σ G (is d)) (hb : Ev c K tb σ G (is (.list ds))) (gd : good d) (ge : good (.list ds)) : Ev c K (tOp (rNotInD K) ta tb) σ G (is (.bool (!ds.any fun z => PyData.eqv z d))) :=
  ev_op ha hb fun G1 H1 x y d' e' s1 h1 h2 p1 p2 Q q => by
    subst p1 p2
    exact ⟨_, _, dp_mono s1 _ _ h1, dp_mono s1 _ _ h2, gd, ge, q _ _ (.bl _) rfl⟩
theorem ev_inT (ha : Ev c K ta σ G (is d)) (hb : Ev c K tb σ G (is (.tuple ds))) (gd : good d) (ge : good (.tuple ds)) : Ev c K (tOp (rInT K) ta tb) σ G (is (.bool (ds.any fun z => PyData.eqv z d))) :=
  ev_op ha hb fun G1 H1 x y d' e' s1 h1 h2 p1 p2 Q q => by
    subst p1 p2
    exact ⟨_, _, dp_mono s1 _ _ h1, dp_mono s1 _ _ h2, gd, ge, q _ _ (.bl _) rfl⟩
theorem ev_niT (ha : Ev c K ta σ G (is d)) (hb : Ev c K tb σ G (is (.tuple ds))) (gd : good d) (ge : good (.tuple ds)) : Ev c K (tOp (rNotInT K) ta tb) σ G (is (.bool (!ds.any fun z => PyData.eqv z d))) :=
  ev_op ha hb fun G1 H1 x y d' e' s1 h1 h2 p1 p2 Q q => by
    subst p1 p2
    exact ⟨_, _, dp_mono s1 _ _ h1, dp_mono s1 _ _ h2, gd, ge, q _ _ (.bl _) rfl⟩
theorem ev_isN (ha : Ev c K ta σ G (is d)) (b : Bool) (hb : ∀ G v, Dp K G v d → decide (v = .non) = b) : Ev c K (tIsN ta) σ G (is (.bool b)) :=
  fun G0 H a b' j Q q => ha G0 H a b' j _ fun v d G1 H1 g1 j1 d1 p1 => by
    subst p1
    show Q (.bl (decide (v = .non))) H1
    rw [hb _ _ d1]
    exact q _ _ G1 H1 g1 j1 (.bl _) rfl
theorem ev_notN (ha : Ev c K ta σ G (is d)) (b : Bool) (hb : ∀ G v, Dp K G v d → decide (v = .non) = b) : Ev c K (tNotN ta) σ G (is (.bool (!b))) :=
  fun G0 H a b' j Q q => ha G0 H a b' j _ fun v d G1 H1 g1 j1 d1 p1 => by
    subst p1
    show Q (.bl (!decide (v = .non))) H1
    rw [hb _ _ d1]
    exact q _ _ G1 H1 g1 j1 (.bl _) rfl
theorem nonN {K : PySem.W.Frag} {G : Hp} {v : V} (h : Dp K G v .none) : decide (v = .non) = true := by rw [dp_none h]; rfl
theorem nonD {K : PySem.W.Frag} {G : Hp} {v : V} {d : PyData} (hd : d ≠ .none) (h : Dp K G v d) : decide (v = .non) = false := decide_eq_false fun z => by
  subst z
  cases h
  exact hd rfl
/-! ### tests -/
theorem et_test {b : Bool} (h : Ev c K te σ G (is (.bool b))) : EvT c (tTest te) σ G (is b) := fun G0 H a b' j Q q => h G0 H a b' j _ fun v d G1 H1 g1 j1 d1 p1 => by
  subst p1
  exact ⟨b, dp_bool d1, q b G1 H1 g1 j1 rfl⟩
theorem et_B {b : Bool} (h : Ev c K te σ G (is (.bool b))) : EvT c (tB te) σ G (is b) := fun G0 H a b' j Q q => h G0 H a b' j _ fun v d G1 H1 g1 j1 d1 p1 => by
  subst p1
  exact ⟨b, dp_bool d1, q b G1 H1 g1 j1 rfl⟩
theorem et_testφ {φ : Bool → Prop} (h : Ev c K te σ G (fun d => ∃ b, d = .bool b ∧ φ b)) : EvT c (tTest te) σ G φ := fun G0 H a b' j Q q => h G0 H a b' j _ fun v d G1 H1 g1 j1 d1 p1 => by
  obtain ⟨b, rfl, p⟩ := p1
  exact ⟨b, dp_bool d1, q b G1 H1 g1 j1 p⟩
theorem et_Bφ {φ : Bool → Prop} (h : Ev c K te σ G (fun d => ∃ b, d = .bool b ∧ φ b)) : EvT c (tB te) σ G φ := fun G0 H a b' j Q q => h G0 H a b' j _ fun v d G1 H1 g1 j1 d1 p1 => by
  obtain ⟨b, rfl, p⟩ := p1
  exact ⟨b, dp_bool d1, q b G1 H1 g1 j1 p⟩
theorem et_not {b : Bool} (h : EvT c tt σ G (is b)) : EvT c (tNot tt) σ G (is (!b)) := fun G0 H a b' j Q q => h G0 H a b' j _ fun v G1 H1 g1 j1 p1 => by
  subst p1
  exact q _ G1 H1 g1 j1 rfl
theorem et_yes : EvT c tYes σ G (is true) := fun G0 H a b j Q q => q true G0 H (Grow.refl b) j rfl
theorem et_and {a b : Bool} (h1 : EvT c tt σ G (is a)) (h2 : a = true → EvT c tu σ G (is b)) : EvT c (tAnd tt tu) σ G (is (a && b)) := fun G0 H x y j Q q => h1 G0 H x y j _ fun v G1 H1 g1 j1 p1 => by
  subst p1
  cases v with
  | true =>
    show tu σ H1 Q
    exact h2 rfl G1 H1 (x.trans g1.g) g1.s j1 Q fun w G2 H2 g2 j2 p2 => q w G2 H2 (g1.trans g2) j2 p2
  | false => exact q false G1 H1 g1 j1 rfl
theorem et_or {a b : Bool} (h1 : EvT c tt σ G (is a)) (h2 : a = false → EvT c tu σ G (is b)) : EvT c (tOr tt tu) σ G (is (a || b)) := fun G0 H x y j Q q => h1 G0 H x y j _ fun v G1 H1 g1 j1 p1 => by
  subst p1
  cases v with
  | true => exact q true G1 H1 g1 j1 rfl
  | false =>
    show tu σ H1 Q
    exact h2 rfl G1 H1 (x.trans g1.g) g1.s j1 Q fun w G2 H2 g2 j2 p2 => q w G2 H2 (g1.trans g2) j2 p2
theorem ev_if {b : Bool} (h : EvT c tt σ G (is b)) (h1 : b = true → Ev c K ta σ G φ) (h2 : b = false → Ev c K tb σ G φ) : Ev c K (tIf tt ta tb) σ G φ := fun G0 H x y j Q q => h G0 H x y j _ fun v G1 H1 g1 j1 p1 => by
  subst p1
  cases v with
  | true =>
    show ta σ H1 Q
    exact h1 rfl G1 H1 (x.trans g1.g) g1.s j1 Q fun w d G2 H2 g2 j2 => q w d G2 H2 (g1.trans g2) j2
  | false =>
    show tb σ H1 Q
    exact h2 rfl G1 H1 (x.trans g1.g) g1.s j1 Q fun w d G2 H2 g2 j2 => q w d G2 H2 (g1.trans g2) j2
theorem ev_andV {a b : Bool} (h1 : Ev c K ta σ G (is (.bool a))) (h2 : a = true → Ev c K tb σ G (is (.bool b))) : Ev c K (tAndV ta tb) σ G (is (.bool (a && b))) := fun G0 H x y j Q q => h1 G0 H x y j _ fun v d G1 H1 g1 j1 d1 p1 => by
  subst p1
  refine ⟨a, dp_bool d1, ?_⟩
  cases a with
  | true =>
    show tb σ H1 Q
    exact h2 rfl G1 H1 (x.trans g1.g) g1.s j1 Q fun w d G2 H2 g2 j2 => q w d G2 H2 (g1.trans g2) j2
  | false => exact q _ _ G1 H1 g1 j1 (.bl _) rfl
theorem ev_orV {a b : Bool} (h1 : Ev c K ta σ G (is (.bool a))) (h2 : a = false → Ev c K tb σ G (is (.bool b))) : Ev c K (tOrV ta tb) σ G (is (.bool (a || b))) := fun G0 H x y j Q q => h1 G0 H x y j _ fun v d G1 H1 g1 j1 d1 p1 => by
  subst p1
  refine ⟨a, dp_bool d1, ?_⟩
  cases a with
  | true => exact q _ _ G1 H1 g1 j1 (.bl _) rfl
  | false =>
    show tb σ H1 Q
    exact h2 rfl G1 H1 (x.trans g1.g) g1.s j1 Q fun w d G2 H2 g2 j2 => q w d G2 H2 (g1.trans g2) j2
theorem ev_notV {a : Bool} (h1 : Ev c K ta σ G (is (.bool a))) : Ev c K (tNotV ta) σ G (is (.bool (!a))) := fun G0 H x y j Q q => h1 G0 H x y j _ fun v d G1 H1 g1 j1 d1 p1 => by
  subst p1
  exact ⟨a, dp_bool d1, q _ _ G1 H1 g1 j1 (.bl _) rfl⟩
/-! ### argument lists -/
/-- an argument: data of which something is known, or a value as it is -/
inductive Ag where
  | dat (φ : PyData → Prop)
  | raw (v : V)
def AgOk (K : PySem.W.Frag) : List Ag → Hp → List V → Prop
  | [], _, vs => vs = []
  | .dat φ :: r, G, vs => ∃ v ws d, vs = v :: ws ∧ Dp K G v d ∧ φ d ∧ AgOk K r G ws
  | .raw v :: r, G, vs => ∃ ws, vs = v :: ws ∧ AgOk K r G ws
theorem agOk_mono (e : Same G G') : ∀ (as : List Ag) (vs : List V), AgOk K as G vs → AgOk K as G' vs
  | [], _, h => h
  | .dat φ :: r, _, ⟨v, ws, d, h1, h2, h3, h4⟩ => ⟨v, ws, d, h1, dp_mono e _ _ h2, h3, agOk_mono e r ws h4⟩
  | .raw v :: r, _, ⟨ws, h1, h4⟩ => ⟨ws, h1, agOk_mono e r ws h4⟩
abbrev EA (c : Ctx) (K : PySem.W.Frag) (ta : TA) (σ : St) (G : Hp) (as : List Ag) : Prop := EvA c ta σ G (AgOk K as)
theorem ea_nil : EA c K tNil σ G [] := fun G0 H a b j Q q => q [] G0 H (Grow.refl b) j rfl
theorem ea_cons {tr : TA} {as : List Ag} (h : Ev c K te σ G φ) (hr : EA c K tr σ G as) : EA c K (tCons te tr) σ G (.dat φ :: as) :=
  fun G0 H a b j Q q => h G0 H a b j _ fun v d G1 H1 g1 j1 d1 p1 => hr G1 H1 (a.trans g1.g) g1.s j1 _ fun ws G2 H2 g2 j2 p2 =>
    q (v :: ws) G2 H2 (g1.trans g2) j2 ⟨v, ws, d, rfl, dp_mono g2.g _ _ d1, p1, p2⟩
theorem ea_raw {tr : TA} {as : List Ag} {i : Nat} {v : V} (h : σ[i]? = some (some v)) (hr : EA c K tr σ G as) : EA c K (tCons (tVar i) tr) σ G (.raw v :: as) :=
  fun G0 H a b j Q q => ⟨v, h, hr G0 H a b j _ fun ws G2 H2 g2 j2 p2 => q (v :: ws) G2 H2 g2 j2 ⟨ws, rfl, p2⟩⟩
theorem ea_rawC {tr : TA} {as : List Ag} {v : V} (hr : EA c K tr σ G as) : EA c K (tCons (tC v) tr) σ G (.raw v :: as) :=
  fun G0 H a b j Q q => hr G0 H a b j _ fun ws G2 H2 g2 j2 p2 => q (v :: ws) G2 H2 g2 j2 ⟨ws, rfl, p2⟩
theorem agOk_one {vs : List V} (h : AgOk K [.dat φ] G vs) : ∃ v d, vs = [v] ∧ Dp K G v d ∧ φ d := by
  obtain ⟨v, ws, d, rfl, h2, h3, h4⟩ := h
  have e : ws = [] := h4
  subst e
  exact ⟨v, d, rfl, h2, h3⟩
/-- data alone -/
def dats (ds : List PyData) : List Ag := ds.map fun d => .dat (is d)
theorem agOk_dats : ∀ {ds : List PyData} {vs : List V}, AgOk K (dats ds) G vs → DpAll K G vs ds
  | [], _, h => by
    have e : _ = [] := h
    subst e
    exact .nil
  | d :: ds, _, ⟨v, ws, e, h1, h2, h3, h4⟩ => by
    subst h1
    subst h3
    exact .cons h2 (agOk_dats h4)
/-! ### calls of built-ins -/
/-- a built-in by values -/
theorem ev_cb {r : List V → Hp → VK → Prop} {t : TA} {as : List Ag} (h : EA c K t σ G as) (hr : ∀ G1 H1 vs, Same G1 H1 → AgOk K as G1 vs → ∀ Q : VK, (∀ z f G2 H2, Grow B0 G1 H1 G2 H2 → Dp K G2 z f → χ f → Q z H2) → r vs H1 Q) : Ev c K (tCB r t) σ G χ :=
  fun G0 H a b j Q q => h G0 H a b j _ fun vs G1 H1 g1 j1 p1 => hr G1 H1 vs g1.s p1 Q fun z f G2 H2 g2 z1 z2 => q z f G2 H2 (g1.trans g2.wide) (c.same j1 g2.same) z1 z2
theorem ev_len {t : Bool} (h : Ev c K te σ G (is (sqD t ds))) : Ev c K (tCB (fun xs H Q => ∃ p ys, xs = [.ref p] ∧ (SqL K H p ys ∨ SqT K H p ys) ∧ Q (.int ys.length) H) (tCons te tNil)) σ G (is (.int ds.length)) :=
  ev_cb (ea_cons h ea_nil) fun G1 H1 vs s1 p1 Q q => by
    obtain ⟨v, d, rfl, h1, h2⟩ := agOk_one p1
    subst h2
    obtain ⟨a, xs, rfl, h3, h4⟩ := dp_sq h1
    refine ⟨a, xs, rfl, ?_, q _ _ G1 H1 (Grow.refl s1) (.int _) (by rw [dpa_len h4])⟩
    rcases h3 with h3 | h3
    · exact .inl (s1.seq h3)
    · exact .inr (Same.sqT s1 h3)
theorem ev_lenL (h : Ev c K te σ G (is (.list ds))) : Ev c K (tCB (fun xs H Q => ∃ p ys, xs = [.ref p] ∧ (SqL K H p ys ∨ SqT K H p ys) ∧ Q (.int ys.length) H) (tCons te tNil)) σ G (is (.int ds.length)) := ev_len (t := false) h
theorem ev_lenT (h : Ev c K te σ G (is (.tuple ds))) : Ev c K (tCB (fun xs H Q => ∃ p ys, xs = [.ref p] ∧ (SqL K H p ys ∨ SqT K H p ys) ∧ Q (.int ys.length) H) (tCons te tNil)) σ G (is (.int ds.length)) := ev_len (t := true) h
/-- tuple(xs): a new one of a list, a tuple itself -/
theorem ev_tuple {t : Bool} (h : Ev c K te σ G (fun d => ∃ ds, d = sqD t ds ∧ χ (.tuple ds))) : Ev c K (tCB (fun xs H Q => ∃ p ys, xs = [.ref p] ∧ ((SqL K H p ys ∧ ∀ l, H l = none → Q (.ref l) (upd H l (.tup ys))) ∨ (SqT K H p ys ∧ Q (.ref p) H))) (tCons te tNil)) σ G χ :=
  ev_cb (ea_cons h ea_nil) fun G1 H1 vs s1 p1 Q q => by
    obtain ⟨v, d, rfl, h1, ds, h2, h5⟩ := agOk_one p1
    subst h2
    obtain ⟨a, xs, rfl, h3, h4⟩ := dp_sq h1
    refine ⟨a, xs, rfl, ?_⟩
    rcases h3 with h3 | h3
    · refine .inl ⟨s1.seq h3, fun l hl => q _ _ _ _ (Grow.new s1 hl) (.tup (.inl (.inl upd_same)) (dpa_mono (same_new (s1.free hl)) _ _ h4)) h5⟩
    · exact .inr ⟨Same.sqT s1 h3, q _ _ G1 H1 (Grow.refl s1) (.tup h3 h4) h5⟩
theorem ev_tupleL (h : Ev c K te σ G (is (.list ds))) : Ev c K (tCB (fun xs H Q => ∃ p ys, xs = [.ref p] ∧ ((SqL K H p ys ∧ ∀ l, H l = none → Q (.ref l) (upd H l (.tup ys))) ∨ (SqT K H p ys ∧ Q (.ref p) H))) (tCons te tNil)) σ G (is (.tuple ds)) :=
  ev_tuple (t := false) (h.imp fun d e => ⟨ds, e, rfl⟩)
theorem ev_tupleT (h : Ev c K te σ G (is (.tuple ds))) : Ev c K (tCB (fun xs H Q => ∃ p ys, xs = [.ref p] ∧ ((SqL K H p ys ∧ ∀ l, H l = none → Q (.ref l) (upd H l (.tup ys))) ∨ (SqT K H p ys ∧ Q (.ref p) H))) (tCons te tNil)) σ G (is (.tuple ds)) :=
  ev_tuple (t := true) (h.imp fun d e => ⟨ds, e, rfl⟩)
/-- list(xs) -/
theorem ev_list {t : Bool} (h : Ev c K te σ G (is (sqD t ds))) : Ev c K (tCB (fun xs H Q => ∃ p ys, xs = [.ref p] ∧ (SqL K H p ys ∨ SqT K H p ys) ∧ ∀ l, H l = none → Q (.ref l) (upd H l (.lst ys))) (tCons te tNil)) σ G (is (.list ds)) :=
  ev_cb (ea_cons h ea_nil) fun G1 H1 vs s1 p1 Q q => by
    obtain ⟨v, d, rfl, h1, h2⟩ := agOk_one p1
    subst h2
    obtain ⟨a, xs, rfl, h3, h4⟩ := dp_sq h1
    refine ⟨a, xs, rfl, ?_, fun l hl => q _ _ _ _ (Grow.new s1 hl) (.lst (.inl (.inl upd_same)) (dpa_mono (same_new (s1.free hl)) _ _ h4)) rfl⟩
    rcases h3 with h3 | h3
    · exact .inl (s1.seq h3)
    · exact .inr (Same.sqT s1 h3)
theorem dpa_bools : ∀ {vs : List V} {bs : List Bool}, DpAll K G vs (bs.map .bool) → vs = bs.map V.bl
  | _, [], h => by cases h; rfl
  | _, b :: bs, h => by
    cases h with
    | cons a t => rw [dp_bool a, dpa_bools t]; rfl
theorem ev_any {bs : List Bool} (h : Ev c K te σ G (is (.list (bs.map .bool)))) : Ev c K (tCB (rAny K) (tCons te tNil)) σ G (is (.bool (bs.any id))) :=
  ev_cb (ea_cons h ea_nil) fun G1 H1 vs s1 p1 Q q => by
    obtain ⟨v, d, rfl, h1, h2⟩ := agOk_one p1
    subst h2
    obtain ⟨a, xs, rfl, h3, h4⟩ := dp_list h1
    have e := dpa_bools h4
    subst e
    exact ⟨a, bs, rfl, s1.seq h3, q _ _ G1 H1 (Grow.refl s1) (.bl _) rfl⟩
theorem ev_all {bs : List Bool} (h : Ev c K te σ G (is (.list (bs.map .bool)))) : Ev c K (tCB (rAll K) (tCons te tNil)) σ G (is (.bool (bs.all id))) :=
  ev_cb (ea_cons h ea_nil) fun G1 H1 vs s1 p1 Q q => by
    obtain ⟨v, d, rfl, h1, h2⟩ := agOk_one p1
    subst h2
    obtain ⟨a, xs, rfl, h3, h4⟩ := dp_list h1
    have e := dpa_bools h4
    subst e
    exact ⟨a, bs, rfl, s1.seq h3, q _ _ G1 H1 (Grow.refl s1) (.bl _) rfl⟩
/-! ### displays -/
theorem agOk_dpa : ∀ {ds : List PyData} {vs : List V}, AgOk K (dats ds) G vs → DpAll K G vs ds := agOk_dats
theorem ev_tupD {t : TA} (h : EA c K t σ G (dats ds)) (hl : ds.length ≤ 100000) : Ev c K (tTup t) σ G (is (.tuple ds)) :=
  fun G0 H a b j Q q => h G0 H a b j _ fun vs G1 H1 g1 j1 p1 => by
    have z := agOk_dats p1
    refine ⟨by rw [dpa_len z]; exact Nat.le_trans hl (by decide), fun p hp => q _ _ _ _ (g1.trans (Grow.new g1.s hp)) (c.new j1 hp) (.tup (.inl (.inl upd_same)) (dpa_mono (same_new (g1.s.free hp)) _ _ z)) rfl⟩
theorem ev_lstD {t : TA} (h : EA c K t σ G (dats ds)) (hl : ds.length ≤ 100000) : Ev c K (tLst t) σ G (is (.list ds)) :=
  fun G0 H a b j Q q => h G0 H a b j _ fun vs G1 H1 g1 j1 p1 => by
    have z := agOk_dats p1
    refine ⟨by rw [dpa_len z]; exact Nat.le_trans hl (by decide), fun p hp => q _ _ _ _ (g1.trans (Grow.new g1.s hp)) (c.new j1 hp) (.lst (.inl (.inl upd_same)) (dpa_mono (same_new (g1.s.free hp)) _ _ z)) rfl⟩
/-- (.., *xs, ..): EX says the data of all items -/
def EX (c : Ctx) (K : PySem.W.Frag) (ta : TA) (σ : St) (G : Hp) (ds : List PyData) : Prop := EvA c ta σ G (fun G1 vs => DpAll K G1 vs ds)
theorem ex_nil : EX c K tNil σ G [] := fun G0 H a b j Q q => q [] G0 H (Grow.refl b) j .nil
theorem ex_cons {tr : TA} (h : Ev c K te σ G (is d)) (hr : EX c K tr σ G ds) : EX c K (tCons te tr) σ G (d :: ds) :=
  fun G0 H a b j Q q => h G0 H a b j _ fun v d' G1 H1 g1 j1 d1 p1 => hr G1 H1 (a.trans g1.g) g1.s j1 _ fun ws G2 H2 g2 j2 p2 => by
    subst p1
    exact q (v :: ws) G2 H2 (g1.trans g2) j2 (.cons (dp_mono g2.g _ _ d1) p2)
theorem ex_star {tr : TA} {t : Bool} (h : Ev c K te σ G (is (sqD t es))) (hr : EX c K tr σ G ds) : EX c K (StX.tStar K te tr) σ G (es ++ ds) :=
  fun G0 H a b j Q q => h G0 H a b j _ fun v d' G1 H1 g1 j1 d1 p1 => by
    subst p1
    obtain ⟨p, xs, rfl, h3, h4⟩ := dp_sq d1
    refine ⟨p, xs, rfl, ?_, hr G1 H1 (a.trans g1.g) g1.s j1 _ fun ws G2 H2 g2 j2 p2 => q (xs ++ ws) G2 H2 (g1.trans g2) j2 (dpa_app (dpa_mono g2.g _ _ h4) p2)⟩
    rcases h3 with h3 | h3
    · exact .inr (g1.s.seq h3)
    · exact .inl (Same.sqT g1.s h3)
theorem ev_tupX {t : TA} (h : EX c K t σ G ds) (hl : ds.length ≤ 100000) : Ev c K (tTup t) σ G (is (.tuple ds)) :=
  fun G0 H a b j Q q => h G0 H a b j _ fun vs G1 H1 g1 j1 z => by
    refine ⟨by rw [dpa_len z]; exact Nat.le_trans hl (by decide), fun p hp => q _ _ _ _ (g1.trans (Grow.new g1.s hp)) (c.new j1 hp) (.tup (.inl (.inl upd_same)) (dpa_mono (same_new (g1.s.free hp)) _ _ z)) rfl⟩
theorem ev_lstX {t : TA} (h : EX c K t σ G ds) (hl : ds.length ≤ 100000) : Ev c K (tLst t) σ G (is (.list ds)) :=
  fun G0 H a b j Q q => h G0 H a b j _ fun vs G1 H1 g1 j1 z => by
    refine ⟨by rw [dpa_len z]; exact Nat.le_trans hl (by decide), fun p hp => q _ _ _ _ (g1.trans (Grow.new g1.s hp)) (c.new j1 hp) (.lst (.inl (.inl upd_same)) (dpa_mono (same_new (g1.s.free hp)) _ _ z)) rfl⟩
/-! ### items, parts -/
theorem ev_ixT {i : Nat} (ha : Ev c K ta σ G (is (.tuple ds))) (hb : Ev c K tb σ G (is (.int (i : Int)))) (hi : ds[i]? = some d) : Ev c K (tOp (rIxT K) ta tb) σ G (is d) :=
  ev_op ha hb fun G1 H1 x y d' e' s1 h1 h2 p1 p2 Q q => by
    subst p1 p2
    obtain ⟨a, xs, rfl, h3, h4⟩ := dp_tup h1
    obtain ⟨v, hv, h5⟩ := dpa_get h4 hi
    exact ⟨a, xs, (i : Int), v, rfl, dp_int h2, Same.sqT s1 h3, atI_nat hv, q v _ h5 rfl⟩
theorem ev_ixL {i : Nat} (ha : Ev c K ta σ G (is (.list ds))) (hb : Ev c K tb σ G (is (.int (i : Int)))) (hi : ds[i]? = some d) : Ev c K (tOp (rIxL K) ta tb) σ G (is d) :=
  ev_op ha hb fun G1 H1 x y d' e' s1 h1 h2 p1 p2 Q q => by
    subst p1 p2
    obtain ⟨a, xs, rfl, h3, h4⟩ := dp_list h1
    obtain ⟨v, hv, h5⟩ := dpa_get h4 hi
    exact ⟨a, xs, (i : Int), v, rfl, dp_int h2, s1.seq h3, atI_nat hv, q v _ h5 rfl⟩
/-- xs[::-1] -/
theorem ev_rev (ha : Ev c K ta σ G (is (.list ds))) : Ev c K (tRevL K ta) σ G (is (.list ds.reverse)) :=
  fun G0 H a b j Q q => ha G0 H a b j _ fun v d G1 H1 g1 j1 d1 p1 => by
    subst p1
    obtain ⟨a, xs, rfl, h3, h4⟩ := dp_list d1
    exact ⟨a, xs, rfl, g1.s.seq h3, fun p hp => q _ _ _ _ (g1.trans (Grow.new g1.s hp)) (c.new j1 hp) (.lst (.inl (.inl upd_same)) (dpa_mono (same_new (g1.s.free hp)) _ _ (dpa_rev h4))) rfl⟩
end
end Mk
/-! ## MkLayer3 -/
set_option autoImplicit true
set_option Elab.async false
set_option linter.all false
set_option maxRecDepth 100000
set_option maxHeartbeats 4000000
namespace Mk
open PySem PySem.Spec PyProof.Rows L2
section
variable {c : Ctx} {K : PySem.W.Frag} {σ : St} {G G' H : Hp} {te ta tb tl : TE} {tt tu : TT} {φ ψ χ : PyData → Prop} {d e : PyData} {ds es : List PyData} {v : V}
/-! ### what is walked -/
theorem src_list {a : Addr} {xs : List V} (h : SqL K G a xs) (hd : DpAll K G xs ds) : Src K (Itl K a) G ds where
  go := fun i H s hi => by
    obtain ⟨v, hv, _⟩ := dpa_get hd (List.getElem?_eq_getElem hi)
    exact ⟨xs, v, s.seq h, hv⟩
  stop := fun i H s hi => ⟨xs, s.seq h, by rw [dpa_len hd]; exact hi⟩
  yld := fun i H x H' G0 d g s hi y => by
    obtain ⟨e, y⟩ := y
    subst e
    obtain ⟨v, hv, h5⟩ := dpa_get hd hi
    have e2 : x = v := Option.some.inj ((y xs ((g.trans s).seq h)).symm.trans hv)
    subst e2
    exact ⟨G0, Grow.refl s, dp_mono g _ _ h5⟩
theorem src_tup {a : Addr} {xs : List V} (h : SqT K G a xs) (hd : DpAll K G xs ds) : Src K (Itt K a) G ds where
  go := fun i H s hi => by
    obtain ⟨v, hv, _⟩ := dpa_get hd (List.getElem?_eq_getElem hi)
    exact ⟨xs, v, Same.sqT s h, hv⟩
  stop := fun i H s hi => ⟨xs, Same.sqT s h, by rw [dpa_len hd]; exact hi⟩
  yld := fun i H x H' G0 d g s hi y => by
    obtain ⟨e, y⟩ := y
    subst e
    obtain ⟨v, hv, h5⟩ := dpa_get hd hi
    have e2 : x = v := Option.some.inj ((y xs (Same.sqT (g.trans s) h)).symm.trans hv)
    subst e2
    exact ⟨G0, Grow.refl s, dp_mono g _ _ h5⟩
theorem es_sq {t : Bool} (h : Ev c K tl σ G (is (sqD t ds))) : EvS c K (iSq K tl) σ G (is ds) := fun G0 H a b j R r => h G0 H a b j _ fun v d G1 H1 g1 j1 d1 p1 => by
  subst p1
  cases t with
  | true =>
    obtain ⟨a, xs, rfl, h3, h4⟩ := dp_tup d1
    exact ⟨a, rfl, .inr ⟨⟨xs, Same.sqT g1.s h3⟩, r _ ds G1 H1 g1 j1 (src_tup h3 h4) rfl⟩⟩
  | false =>
    obtain ⟨a, xs, rfl, h3, h4⟩ := dp_list d1
    exact ⟨a, rfl, .inl ⟨⟨xs, g1.s.seq h3⟩, r _ ds G1 H1 g1 j1 (src_list h3 h4) rfl⟩⟩
/-- a list of which something is known -/
theorem es_sqφ {t : Bool} {Φ : List PyData → Prop} (h : Ev c K tl σ G (fun d => ∃ ds, d = sqD t ds ∧ Φ ds)) : EvS c K (iSq K tl) σ G Φ := fun G0 H a b j R r => h G0 H a b j _ fun v d G1 H1 g1 j1 d1 p1 => by
  obtain ⟨ds, e, p1⟩ := p1
  subst e
  cases t with
  | true =>
    obtain ⟨a, xs, rfl, h3, h4⟩ := dp_tup d1
    exact ⟨a, rfl, .inr ⟨⟨xs, Same.sqT g1.s h3⟩, r _ ds G1 H1 g1 j1 (src_tup h3 h4) p1⟩⟩
  | false =>
    obtain ⟨a, xs, rfl, h3, h4⟩ := dp_list d1
    exact ⟨a, rfl, .inl ⟨⟨xs, g1.s.seq h3⟩, r _ ds G1 H1 g1 j1 (src_list h3 h4) p1⟩⟩
theorem es_L (h : Ev c K tl σ G (is (.list ds))) : EvS c K (iSq K tl) σ G (is ds) := es_sq (t := false) h
theorem es_T (h : Ev c K tl σ G (is (.tuple ds))) : EvS c K (iSq K tl) σ G (is ds) := es_sq (t := true) h
def rangeD (n : Nat) : List PyData := (List.range n).map fun i : Nat => PyData.int (i : Int)
theorem src_range (n : Nat) : Src K (Itr 0 n) G (rangeD n) where
  go := fun i H s hi => by
    have e : (rangeD n).length = n := by unfold rangeD; rw [List.length_map, List.length_range]
    rw [e] at hi
    exact hi
  stop := fun i H s hi => by
    have e : (rangeD n).length = n := by unfold rangeD; rw [List.length_map, List.length_range]
    rw [e] at hi
    exact hi
  yld := fun i H x H' G0 d g s hi y => by
    obtain ⟨e, y⟩ := y
    subst e
    subst y
    unfold rangeD at hi
    rw [List.getElem?_map] at hi
    obtain ⟨hn, _⟩ : i < n ∧ True := by
      refine ⟨?_, trivial⟩
      rcases Nat.lt_or_ge i n with z | z
      · exact z
      · rw [List.getElem?_eq_none (by rw [List.length_range]; exact z)] at hi
        cases hi
    rw [List.getElem?_range hn] at hi
    have e2 : PyData.int (i : Int) = d := Option.some.inj hi
    subst e2
    refine ⟨G0, Grow.refl s, ?_⟩
    rw [Int.zero_add]
    exact .int _
theorem es_range {n : Nat} {t : TA} (h : EA c K t σ G [.dat (is (.int (n : Int)))]) (hn : n ≤ 1000000) : EvS c K (iRng1 t) σ G (is (rangeD n)) := fun G0 H a b j R r => h G0 H a b j _ fun vs G1 H1 g1 j1 p1 => by
  obtain ⟨v, d, rfl, h1, h2⟩ := agOk_one p1
  subst h2
  refine ⟨(n : Int), by rw [dp_int h1], by omega, by omega, ?_⟩
  rw [Int.toNat_natCast]
  exact r _ _ G1 H1 g1 j1 (src_range n) rfl
/-- a range whose end is not told -/
theorem es_rangeφ {Φ : Nat → Prop} {t : TA} (h : EA c K t σ G [.dat fun d => ∃ n : Nat, d = .int (n : Int) ∧ n ≤ 1000000 ∧ Φ n]) : EvS c K (iRng1 t) σ G (fun ds => ∃ n, ds = rangeD n ∧ Φ n) := fun G0 H a b j R r => h G0 H a b j _ fun vs G1 H1 g1 j1 p1 => by
  obtain ⟨v, d, rfl, h1, n, h2, hn, h3⟩ := agOk_one p1
  subst h2
  refine ⟨(n : Int), by rw [dp_int h1], by omega, by omega, ?_⟩
  rw [Int.toNat_natCast]
  exact r _ _ G1 H1 g1 j1 (src_range n) ⟨n, rfl, h3⟩
/-! ### targets -/
/-- the target takes such data: the slots behind it -/
def TgOk (g : TG) (σ : St) (G : Hp) (v : V) (σ2 : St) : Prop := ∀ H (R : St → Hp → Prop), Same G H → R σ2 H → g v σ H R
theorem tg_name {i : Nat} : TgOk (gName i) σ G v (σ.set i (some v)) := fun H R s r => r
theorem tg_pair {i j : Nat} {d1 d2 : PyData} (h : Dp K G v (.tuple [d1, d2])) : ∃ v1 v2, Dp K G v1 d1 ∧ Dp K G v2 d2 ∧ TgOk (gTup K 2 (gCons (gName i) (gCons (gName j) gNil))) σ G v ((σ.set i (some v1)).set j (some v2)) := by
  obtain ⟨a, xs, rfl, h3, h4⟩ := dp_tup h
  obtain ⟨v1, v2, rfl, h5, h6⟩ := dpa_two h4
  exact ⟨v1, v2, h5, h6, fun H R s r => ⟨a, _, rfl, Same.sqT s h3, rfl, v1, [v2], rfl, v2, [], rfl, rfl, r⟩⟩
/-! ### comprehensions -/
/-- what is picked, from the left: T of the test, R of the element -/
inductive Pk {α : Type} (T : α → Bool → Prop) (R : α → PyData → Prop) : List α → List PyData → Prop
  | nil : Pk T R [] []
  | yes {xs : List α} {ds : List PyData} {x : α} {d : PyData} : Pk T R xs ds → T x true → R x d → Pk T R (xs ++ [x]) (ds ++ [d])
  | no {xs : List α} {ds : List PyData} {x : α} : Pk T R xs ds → T x false → Pk T R (xs ++ [x]) ds
theorem Pk.det {α : Type} {f : α → Bool} {g : α → PyData} {xs : List α} {ds : List PyData} (h : Pk (fun x b => b = f x) (fun x d => d = g x) xs ds) : ds = (xs.filter f).map g := by
  induction h with
  | nil => rfl
  | @yes xs ds x d _ t r ih =>
    have t' : f x = true := t.symm
    have r' : d = g x := r
    rw [ih, r', List.filter_append, List.map_append, List.filter_cons, if_pos t']
    rfl
  | @no xs ds x _ t ih =>
    have t' : ¬ f x = true := by rw [← (show false = f x from t)]; exact Bool.false_ne_true
    rw [ih, List.filter_append, List.filter_cons, if_neg t', List.filter_nil, List.append_nil]
theorem Pk.len {α : Type} {T : α → Bool → Prop} {R : α → PyData → Prop} {xs : List α} {ds : List PyData} (h : Pk T R xs ds) : ds.length ≤ xs.length := by
  induction h with
  | nil => exact Nat.le_refl _
  | yes _ _ _ ih => rw [List.length_append, List.length_append]; simp only [List.length_singleton]; omega
  | no _ _ ih => rw [List.length_append]; omega
theorem Pk.all {α : Type} {R : α → PyData → Prop} {xs : List α} {ds : List PyData} (h : Pk (fun _ b => b = true) R xs ds) : ds.length = xs.length := by
  induction h with
  | nil => rfl
  | yes _ _ _ ih => rw [List.length_append, List.length_append, ih]; rfl
  | no _ t _ => cases t
theorem Pk.mem {α : Type} {T : α → Bool → Prop} {R : α → PyData → Prop} {xs : List α} {ds : List PyData} (h : Pk T R xs ds) : ∀ d ∈ ds, ∃ x ∈ xs, R x d := by
  induction h with
  | nil => intro d hd; cases hd
  | @yes xs ds x d _ _ r ih =>
    intro d' hd'
    rcases List.mem_append.mp hd' with z | z
    · obtain ⟨y, hy, q⟩ := ih d' z
      exact ⟨y, List.mem_append_left _ hy, q⟩
    · rw [List.mem_singleton] at z
      subst z
      exact ⟨x, List.mem_append_right _ List.mem_cons_self, r⟩
  | @no xs ds x _ _ ih =>
    intro d' hd'
    obtain ⟨y, hy, q⟩ := ih d' hd'
    exact ⟨y, List.mem_append_left _ hy, q⟩
theorem take_succ' {α : Type} {l : List α} {i : Nat} {x : α} (h : l[i]? = some x) : l.take (i + 1) = l.take i ++ [x] := by
  rw [List.take_add_one, h]
  rfl
/-- one turn: the slots behind the target, the test, the element -/
def LcTurn (c : Ctx) (K : PySem.W.Frag) (g : TG) (tt : TT) (te : TE) (vs : List Nat) (σ : St) (G : Hp) (v : V) (T : Bool → Prop) (R : PyData → Prop) : Prop :=
  ∃ σ2, TgOk g (wipe σ vs) G v σ2 ∧ wipe σ2 vs = wipe σ vs ∧ EvT c tt σ2 G T ∧ (T true → Ev c K te σ2 G R)
/-- [e for x in xs if ..] -/
theorem ev_lcR {α : Type} {wi : TI} {g : TG} {vs : List Nat} (enc : α → PyData) (Φ : List α → Prop) (T : α → Bool → Prop) (R : α → PyData → Prop) (hs : EvS c K wi σ G (fun ds => ∃ xs : List α, ds = xs.map enc ∧ xs.length ≤ 100000 ∧ Φ xs))
    (ht : ∀ (xs : List α) x G1 v, Φ xs → x ∈ xs → Same G G1 → Dp K G1 v (enc x) → LcTurn c K g tt te vs σ G1 v (T x) (R x)) :
    Ev c K (tLc wi g tt te vs) σ G (fun d => ∃ xs ds, Φ xs ∧ d = .list ds ∧ Pk T R xs ds) := fun G0 H a b j Q q => hs G0 H a b j _ fun J ds0 G1 H1 g1 j1 S ⟨xs, e0, hl, hΦ⟩ => by
  subst e0
  intro D hD
  have hnP : ¬ c.P D := c.notP j1 hD
  have hnB : ¬ c.B D := fun z => hnP (c.bp D z)
  have hlen : (xs.map enc).length = xs.length := List.length_map ..
  refine ⟨fun i m H2 => m = xs.length - i ∧ i ≤ xs.length ∧ ∃ G2 acc ds, Grow c.B G1 H1 G2 H2 ∧ c.J H2 ∧ G2 D = none ∧ H2 D = some (.lst acc) ∧ DpAll K G2 acc ds ∧ Pk T R (xs.take i) ds,
    ⟨xs.length, by simp, Nat.zero_le _, G1, [], [], (Grow.refl g1.s).mut (.inl hD) (g1.s.free hD), c.new j1 hD, g1.s.free hD, upd_same, .nil, by rw [List.take_zero]; exact .nil⟩, ?_⟩
  rintro i m H2 ⟨rfl, hi, G2, acc, ds, gr, j2, n2, h2, dp2, pk⟩
  by_cases hlt : i < xs.length
  · have hx : xs[i]? = some xs[i] := List.getElem?_eq_getElem hlt
    generalize xs[i] = x at hx
    have hdx : (xs.map enc)[i]? = some (enc x) := by rw [List.getElem?_map, hx]; rfl
    refine .inr ⟨S.go i H2 (gr.g.trans gr.s) (by rw [hlen]; exact hlt), fun H3 => ∃ G3 acc ds, Grow c.B G1 H1 G3 H3 ∧ c.J H3 ∧ G3 D = none ∧ H3 D = some (.lst acc) ∧ DpAll K G3 acc ds ∧ Pk T R (xs.take (i + 1)) ds,
      fun H3 ⟨G3, acc, ds, x1⟩ => ⟨xs.length - (i + 1), by omega, rfl, hlt, G3, acc, ds, x1⟩, fun y H3 hy => ?_⟩
    obtain ⟨G3, gy, dy⟩ := S.yld i H2 y H3 G2 (enc x) gr.g gr.s hdx hy
    have gr3 : Grow c.B G1 H1 G3 H3 := gr.trans gy.wide
    have n3 : G3 D = none := gy.none1 (by rw [h2]; exact fun z => nomatch z) n2
    obtain ⟨σ2, t1, t2, t3, t4⟩ := ht xs x G3 y hΦ (List.mem_of_getElem? hx) ((a.trans g1.g).trans gr3.g) dy
    refine t1 H3 _ gy.s ⟨t2, ?_⟩
    refine t3 G3 H3 (Same.refl _) gy.s (c.same j2 gy.same) _ fun bb G4 H4 g4 j4 p4 => ?_
    have h3 : H3 D = some (.lst acc) := gy.same _ _ h2
    have h4 : H4 D = some (.lst acc) := g4.h _ _ hnB h3
    have n4 : G4 D = none := g4.none1 (by rw [h3]; exact fun z => nomatch z) n3
    have hacc : acc.length < sizeLine := by
      rw [dpa_len dp2]
      have := pk.len
      rw [List.length_take] at this
      exact Nat.lt_of_le_of_lt (Nat.le_trans this (Nat.le_trans (Nat.min_le_right _ _) hl)) (by decide)
    cases bb with
    | true =>
      show te σ2 H4 _
      refine t4 p4 G4 H4 g4.g g4.s j4 _ fun w dd G5 H5 g5 j5 d5 p5 => ?_
      have h5 : H5 D = some (.lst acc) := g5.h _ _ hnB h4
      have n5 : G5 D = none := g5.none1 (by rw [h4]; exact fun z => nomatch z) n4
      have gr5 : Grow c.B G1 H1 G5 H5 := (gr3.trans g4).trans g5
      refine ⟨acc, h5, hacc, G5, acc ++ [w], ds ++ [dd], gr5.mut (.inl hD) n5, c.mut j5 hnP, n5, upd_same, ?_, ?_⟩
      · exact dpa_app (dpa_mono ((gy.g.trans g4.g).trans g5.g) _ _ dp2) (.cons d5 .nil)
      · rw [take_succ' hx]
        exact .yes pk p4 p5
    | false =>
      refine ⟨G4, acc, ds, gr3.trans g4, j4, n4, h4, dpa_mono (gy.g.trans g4.g) _ _ dp2, ?_⟩
      rw [take_succ' hx]
      exact .no pk p4
  · have e : i = xs.length := by omega
    subst e
    rw [List.take_length] at pk
    refine .inl ⟨S.stop _ H2 (gr.g.trans gr.s) (by rw [hlen]; exact Nat.le_refl _), ?_⟩
    have gk : Grow c.B G1 H1 (upd G2 D (.lst acc)) H2 := gr.know hD h2 g1.s
    exact q _ (.list ds) _ H2 (g1.trans gk) j2 (.lst (.inl (.inl upd_same)) (dpa_mono (same_new n2) _ _ dp2)) ⟨xs, ds, hΦ, rfl, pk⟩
/-- .. all of it told -/
theorem ev_lc {α : Type} {wi : TI} {g : TG} {vs : List Nat} (enc : α → PyData) (xs : List α) (f : α → Bool) (el : α → PyData) (hs : EvS c K wi σ G (is (xs.map enc))) (hl : xs.length ≤ 100000)
    (ht : ∀ x G1 v, x ∈ xs → Same G G1 → Dp K G1 v (enc x) → LcTurn c K g tt te vs σ G1 v (is (f x)) (is (el x))) :
    Ev c K (tLc wi g tt te vs) σ G (is (.list ((xs.filter f).map el))) := by
  refine (ev_lcR enc (is xs) (fun x b => b = f x) (fun x d => d = el x) (fun G0 H a b j R r => hs G0 H a b j R fun J ds G1 H1 g1 j1 S e => r J ds G1 H1 g1 j1 S ⟨xs, e, hl, rfl⟩) (fun ys x G1 v e hx => ?_)).imp ?_
  · rw [show ys = xs from e] at hx
    exact ht x G1 v hx
  · rintro d ⟨ys, ds, e, rfl, pk⟩
    have e' : ys = xs := e
    subst e'
    rw [pk.det]
/-- a turn whose target is a name, without tests -/
theorem lct_name {j : Nat} {vs : List Nat} {T : Bool → Prop} {R : PyData → Prop} (hw : wipe ((wipe σ vs).set j (some v)) vs = wipe σ vs) (h1 : EvT c tt ((wipe σ vs).set j (some v)) G T) (h2 : T true → Ev c K te ((wipe σ vs).set j (some v)) G R) : LcTurn c K (gName j) tt te vs σ G v T R :=
  ⟨_, tg_name, hw, h1, h2⟩
end
end Mk
/-! ## MkLayer4 -/
set_option autoImplicit true
set_option Elab.async false
set_option linter.all false
set_option maxRecDepth 100000
set_option maxHeartbeats 4000000
namespace Mk
open PySem PySem.Spec PyProof.Rows L2
/-! ### promises -/
/-- a def of data: arguments i, what it is asked to hold, its value -/
def spP (K : PySem.W.Frag) {ι : Type} (args : ι → List PyData) (pre : ι → Prop) (res : ι → PyData) : Sp := fun vs H Q _ => ∃ i G, Same G H ∧ DpAll K G vs (args i) ∧ pre i ∧
  ∀ v G1 H1, Grow B0 G H G1 H1 → Dp K G1 v (res i) → Q v H1
theorem spP_len {K : PySem.W.Frag} {ι : Type} {args : ι → List PyData} {pre : ι → Prop} {res : ι → PyData} {n : Nat} (hn : ∀ i, (args i).length = n) : ∀ vs H Q E, spP K args pre res vs H Q E → vs.length = n := by
  rintro vs H Q E ⟨i, G, _, h, _⟩
  rw [dpa_len h, hn]
section
variable {c : Ctx} {K : PySem.W.Frag} {σ : St} {G G' H : Hp} {te ta tb tl : TE} {tt tu : TT} {φ ψ χ : PyData → Prop} {d e : PyData} {ds es : List PyData} {v : V}
/-- a call of a def, its promise unfolded -/
theorem ev_callX {sp : Sp} {E : XK} {t : TA} {as : List Ag} (h : EA c K t σ G as)
    (hr : ∀ G1 H1 vs, Same G G1 → Same G1 H1 → c.J H1 → AgOk K as G1 vs → ∀ Q : VK, (∀ z f G2 H2, Grow c.B G1 H1 G2 H2 → c.J H2 → Dp K G2 z f → χ f → Q z H2) → sp vs H1 Q E) : Ev c K (tCall sp [] E t) σ G χ :=
  fun G0 H a b j Q q => h G0 H a b j _ fun vs G1 H1 g1 j1 p1 => by
    rw [List.append_nil]
    exact hr G1 H1 vs (a.trans g1.g) g1.s j1 p1 Q fun z f G2 H2 g2 j2 z1 z2 => q z f G2 H2 (g1.trans g2) j2 z1 z2
/-- a call of a def of data -/
theorem ev_call {ι : Type} {args : ι → List PyData} {pre : ι → Prop} {res : ι → PyData} {E : XK} {t : TA} (i : ι) (h : EA c K t σ G (dats (args i))) (hp : pre i) : Ev c K (tCall (spP K args pre res) [] E t) σ G (is (res i)) :=
  ev_callX h fun G1 H1 vs _ s1 j1 p1 Q q => ⟨i, G1, s1, agOk_dats p1, hp, fun v G2 H2 g2 d2 => q v _ G2 H2 g2.wide (c.same j1 g2.same) d2 rfl⟩
/-- .. of arguments not all told -/
theorem ev_callφ {ι : Type} {args : ι → List PyData} {pre : ι → Prop} {res : ι → PyData} {E : XK} {t : TA} {as : List Ag} (h : EA c K t σ G as) (hp : ∀ G1 vs, AgOk K as G1 vs → ∃ i, DpAll K G1 vs (args i) ∧ pre i ∧ χ (res i)) : Ev c K (tCall (spP K args pre res) [] E t) σ G χ :=
  ev_callX h fun G1 H1 vs _ s1 j1 p1 Q q => by
    obtain ⟨i, h1, h2, h3⟩ := hp G1 vs p1
    exact ⟨i, G1, s1, h1, h2, fun v G2 H2 g2 d2 => q v _ G2 H2 g2.wide (c.same j1 g2.same) d2 h3⟩
/-! ### statements: what is known G, what stands H -/
theorem st_ret {D : Ends} (h : Ev c K te σ G φ) (s : Same G H) (j : c.J H) (k : ∀ v d G1 H1, Grow c.B G H G1 H1 → c.J H1 → Dp K G1 v d → φ d → D.rt v H1) : tRet te D σ H := h G H (Same.refl G) s j _ k
theorem st_asg {D : Ends} {g : TG} (h : Ev c K te σ G φ) (s : Same G H) (j : c.J H) (k : ∀ v d G1 H1, Grow c.B G H G1 H1 → c.J H1 → Dp K G1 v d → φ d → g v σ H1 D.nx) : tAsg te g D σ H := h G H (Same.refl G) s j _ k
theorem st_drop {D : Ends} (h : Ev c K te σ G φ) (s : Same G H) (j : c.J H) (k : ∀ v d G1 H1, Grow c.B G H G1 H1 → c.J H1 → Dp K G1 v d → φ d → D.nx σ H1) : tDrop te D σ H := h G H (Same.refl G) s j _ k
theorem st_if {D : Ends} {ts tu' : TS} {φ : Bool → Prop} (h : EvT c tt σ G φ) (s : Same G H) (j : c.J H) (k : ∀ b G1 H1, Grow c.B G H G1 H1 → c.J H1 → φ b → if b = true then ts D σ H1 else tu' D σ H1) : tIfS tt ts tu' D σ H := h G H (Same.refl G) s j _ k
/-- x = e and what follows -/
theorem q_asg {D : Ends} {i : Nat} {tz : TS} (h : Ev c K te σ G φ) (s : Same G H) (j : c.J H) (k : ∀ v d G1 H1, Grow c.B G H G1 H1 → c.J H1 → Dp K G1 v d → φ d → tz D (σ.set i (some v)) H1) : tSeq (tAsg te (gName i)) tz D σ H := h G H (Same.refl G) s j _ k
/-- a, b = e and what follows -/
theorem q_asg2 {D : Ends} {i j' : Nat} {tz : TS} (h : Ev c K te σ G (fun d => ∃ d1 d2, d = .tuple [d1, d2] ∧ φ d1 ∧ ψ d2)) (s : Same G H) (j : c.J H) (k : ∀ v1 v2 d1 d2 G1 H1, Grow c.B G H G1 H1 → c.J H1 → Dp K G1 v1 d1 → Dp K G1 v2 d2 → φ d1 → ψ d2 → tz D ((σ.set i (some v1)).set j' (some v2)) H1) :
    tSeq (tAsg te (gTup K 2 (gCons (gName i) (gCons (gName j') gNil)))) tz D σ H := h G H (Same.refl G) s j _ fun v d G1 H1 g1 j1 dd p => by
  obtain ⟨d1, d2, rfl, p1, p2⟩ := p
  obtain ⟨v1, v2, h1, h2, t⟩ := tg_pair (i := i) (j := j') (σ := σ) dd
  exact t H1 _ g1.s (k v1 v2 d1 d2 G1 H1 g1 j1 h1 h2 p1 p2)
theorem q_if {D : Ends} {ts tu' tz : TS} {φ : Bool → Prop} (h : EvT c tt σ G φ) (s : Same G H) (j : c.J H) (k : ∀ b G1 H1, Grow c.B G H G1 H1 → c.J H1 → φ b → if b = true then ts { D with nx := tz D } σ H1 else tu' { D with nx := tz D } σ H1) : tSeq (tIfS tt ts tu') tz D σ H := h G H (Same.refl G) s j _ k
theorem q_drop {D : Ends} {tz : TS} (h : Ev c K te σ G φ) (s : Same G H) (j : c.J H) (k : ∀ v d G1 H1, Grow c.B G H G1 H1 → c.J H1 → Dp K G1 v d → φ d → tz D σ H1) : tSeq (tDrop te) tz D σ H := h G H (Same.refl G) s j _ k
/-- for: W by the turn, the slots, what is known and what stands -/
theorem st_for {α : Type} {wi : TI} {g : TG} {tb : TS} {D : Ends} (enc : α → PyData) (Φ : List α → Prop) (h : EvS c K wi σ G (fun ds => ∃ xs : List α, ds = xs.map enc ∧ Φ xs)) (s : Same G H) (j : c.J H)
    (W : List α → Nat → St → Hp → Hp → Prop) (h0 : ∀ xs G1 H1, Φ xs → Grow c.B G H G1 H1 → c.J H1 → W xs 0 σ G1 H1)
    (hW : ∀ xs i σ' G' H', W xs i σ' G' H' → Same G' H')
    (hs : ∀ xs G0, Φ xs → Same G G0 → ∀ i x σ' G' H', xs[i]? = some x → Same G0 G' → W xs i σ' G' H' → ∀ v G1 H1, Grow B0 G' H' G1 H1 → Dp K G1 v (enc x) →
      ∃ σ2, TgOk g σ' G1 v σ2 ∧ tb { D with nx := fun σ'' H'' => ∃ G'', Same G0 G'' ∧ W xs (i + 1) σ'' G'' H'', ct := fun σ'' H'' => ∃ G'', Same G0 G'' ∧ W xs (i + 1) σ'' G'' H'', bk := D.nx } σ2 H1)
    (hd : ∀ xs, Φ xs → ∀ σ' G' H', Same G G' → W xs xs.length σ' G' H' → D.nx σ' H') : tFor wi g tb D σ H := h G H (Same.refl G) s j _ fun J ds G1 H1 g1 j1 S ⟨xs, e0, hΦ⟩ => by
  subst e0
  have hlen : (xs.map enc).length = xs.length := List.length_map ..
  refine ⟨fun i m σ' H' => m = xs.length - i ∧ i ≤ xs.length ∧ ∃ G', Same G1 G' ∧ W xs i σ' G' H', ⟨xs.length, by simp, Nat.zero_le _, G1, Same.refl _, h0 xs G1 H1 hΦ g1 j1⟩, ?_⟩
  rintro i m σ' H' ⟨rfl, hi, G', sg, w⟩
  have sh := hW xs i σ' G' H' w
  by_cases hlt : i < xs.length
  · have hx : xs[i]? = some xs[i] := List.getElem?_eq_getElem hlt
    generalize xs[i] = x at hx
    have hdx : (xs.map enc)[i]? = some (enc x) := by rw [List.getElem?_map, hx]; rfl
    refine .inr ⟨S.go i H' (sg.trans sh) (by rw [hlen]; exact hlt), fun σ'' H'' => ∃ G'', Same G1 G'' ∧ W xs (i + 1) σ'' G'' H'',
      fun σ'' H'' ⟨G'', y1, y2⟩ => ⟨xs.length - (i + 1), by omega, rfl, hlt, G'', y1, y2⟩, fun y H3 hy => ?_⟩
    obtain ⟨G3, gy, dy⟩ := S.yld i H' y H3 G' (enc x) sg sh hdx hy
    obtain ⟨σ2, t1, t2⟩ := hs xs G1 hΦ g1.g i x σ' G' H' hx sg w y G3 H3 gy dy
    exact t1 H3 _ gy.s t2
  · have e : i = xs.length := by omega
    subst e
    exact .inl ⟨S.stop _ H' (sg.trans sh) (by rw [hlen]; exact Nat.le_refl _), hd xs hΦ σ' G' H' (g1.g.trans sg) w⟩
/-! ### an instance: its fields -/
def cI (a C dx : Addr) (fs : List (Str × V)) : Ctx where
  B := B0
  P := fun b => b = a
  J := fun H => H a = some (.ins C dx fs)
  bp := fun _ z => z.elim
  tr := fun H b j e => by rw [e, j]; exact fun z => nomatch z
  up := fun H H' j k => k a _ rfl j
/-- self.f -/
theorem ev_fld {a C dx : Addr} {fs : List (Str × V)} {i : Nat} {f : Str} {v : V} (hB : c.B = B0) (hJ : ∀ H, c.J H → H a = some (.ins C dx fs)) (hi : σ[i]? = some (some (.ref a))) (hc : Cls K C) (hn : NoAttr K C f) (hf : fs.lookup f = some v) (hd : Dp K G v d) : Ev c K (tFld K (tVar i) f) σ G (is d) :=
  fun G0 H x y j Q q => ⟨.ref a, hi, a, C, dx, fs, v, rfl, hJ H j, hc, hn, hf, q v d G0 H (Grow.refl y) j (dp_mono x _ _ hd) rfl⟩
end
end Mk
/-! ## MkBase -/
set_option autoImplicit true
set_option Elab.async false
set_option linter.all false
set_option maxRecDepth 100000
set_option maxHeartbeats 4000000
namespace Mk
open PySem PySem.Spec PyProof.Rows L2
/-- a def of the text, at f -/
abbrev FnP (K : PySem.W.Frag) (x qual : Str) (st : Stmt) (f : Addr) : Prop := ∃ fd, FunD K x qual (defArgs st) (defBody st) (defScope st) [] [] f fd
abbrev FC (K : PySem.W.Frag) : Addr := He.ga K "Finder"
structure Txt (K : PySem.W.Frag) (mg : Str → Option Value) : Prop where
  g_tupled : mg "tupled" = some (.ref (He.ga K "tupled"))
  f_tupled : FnP K "tupled" "tupled" st_tupled (He.ga K "tupled")
  g_begun : mg "begun" = some (.ref (He.ga K "begun"))
  f_begun : FnP K "begun" "begun" st_begun (He.ga K "begun")
  g_is_part : mg "is_part" = some (.ref (He.ga K "is_part"))
  f_is_part : FnP K "is_part" "is_part" st_is_part (He.ga K "is_part")
  g_in_order : mg "in_order" = some (.ref (He.ga K "in_order"))
  f_in_order : FnP K "in_order" "in_order" st_in_order (He.ga K "in_order")
  g_least_of : mg "least_of" = some (.ref (He.ga K "least_of"))
  f_least_of : FnP K "least_of" "least_of" st_least_of (He.ga K "least_of")
  g_base_of : mg "base_of" = some (.ref (He.ga K "base_of"))
  f_base_of : FnP K "base_of" "base_of" st_base_of (He.ga K "base_of")
  g_does : mg "does" = some (.ref (He.ga K "does"))
  f_does : FnP K "does" "does" st_does (He.ga K "does")
  g_step : mg "step" = some (.ref (He.ga K "step"))
  f_step : FnP K "step" "step" st_step (He.ga K "step")
  g_short_logs : mg "short_logs" = some (.ref (He.ga K "short_logs"))
  f_short_logs : FnP K "short_logs" "short_logs" st_short_logs (He.ga K "short_logs")
  g_parts_in : mg "parts_in" = some (.ref (He.ga K "parts_in"))
  f_parts_in : FnP K "parts_in" "parts_in" st_parts_in (He.ga K "parts_in")
  g_open_logs : mg "open_logs" = some (.ref (He.ga K "open_logs"))
  f_open_logs : FnP K "open_logs" "open_logs" st_open_logs (He.ga K "open_logs")
  g_sure_by : mg "sure_by" = some (.ref (He.ga K "sure_by"))
  f_sure_by : FnP K "sure_by" "sure_by" st_sure_by (He.ga K "sure_by")
  g_shows : mg "shows" = some (.ref (He.ga K "shows"))
  f_shows : FnP K "shows" "shows" st_shows (He.ga K "shows")
  g_undone_logs : mg "undone_logs" = some (.ref (He.ga K "undone_logs"))
  f_undone_logs : FnP K "undone_logs" "undone_logs" st_undone_logs (He.ga K "undone_logs")
  g_fewest_cover : mg "fewest_cover" = some (.ref (He.ga K "fewest_cover"))
  f_fewest_cover : FnP K "fewest_cover" "fewest_cover" st_fewest_cover (He.ga K "fewest_cover")
  g_paper : mg "paper" = some (.ref (He.ga K "paper"))
  f_paper : FnP K "paper" "paper" st_paper (He.ga K "paper")
  g_l_box : mg "_law_box" = some (.ref (He.ga K "_law_box"))
  f_l_box : FnP K "_law_box" "_law_box" st_l_box (He.ga K "_law_box")
  g_l_take : mg "_law_take" = some (.ref (He.ga K "_law_take"))
  f_l_take : FnP K "_law_take" "_law_take" st_l_take (He.ga K "_law_take")
  g_l_cells : mg "_law_cells" = some (.ref (He.ga K "_law_cells"))
  f_l_cells : FnP K "_law_cells" "_law_cells" st_l_cells (He.ga K "_law_cells")
  g_l_of : mg "_law_of" = some (.ref (He.ga K "_law_of"))
  f_l_of : FnP K "_law_of" "_law_of" st_l_of (He.ga K "_law_of")
  g_l_pick : mg "_law_pick" = some (.ref (He.ga K "_law_pick"))
  f_l_pick : FnP K "_law_pick" "_law_pick" st_l_pick (He.ga K "_law_pick")
  g_l_same : mg "_law_same" = some (.ref (He.ga K "_law_same"))
  f_l_same : FnP K "_law_same" "_law_same" st_l_same (He.ga K "_law_same")
  g_l_names : mg "_law_names" = some (.ref (He.ga K "_law_names"))
  f_l_names : FnP K "_law_names" "_law_names" st_l_names (He.ga K "_law_names")
  g_l_lies : mg "_law_lies" = some (.ref (He.ga K "_law_lies"))
  f_l_lies : FnP K "_law_lies" "_law_lies" st_l_lies (He.ga K "_law_lies")
  g_l_sorted : mg "_law_sorted" = some (.ref (He.ga K "_law_sorted"))
  f_l_sorted : FnP K "_law_sorted" "_law_sorted" st_l_sorted (He.ga K "_law_sorted")
  g_l_least : mg "_law_least" = some (.ref (He.ga K "_law_least"))
  f_l_least : FnP K "_law_least" "_law_least" st_l_least (He.ga K "_law_least")
  g_l_event_row : mg "_law_event_row" = some (.ref (He.ga K "_law_event_row"))
  f_l_event_row : FnP K "_law_event_row" "_law_event_row" st_l_event_row (He.ga K "_law_event_row")
  g_l_some_rows : mg "_law_some_rows" = some (.ref (He.ga K "_law_some_rows"))
  f_l_some_rows : FnP K "_law_some_rows" "_law_some_rows" st_l_some_rows (He.ga K "_law_some_rows")
  g_l_done : mg "_law_done" = some (.ref (He.ga K "_law_done"))
  f_l_done : FnP K "_law_done" "_law_done" st_l_done (He.ga K "_law_done")
  g_l_within : mg "_law_within" = some (.ref (He.ga K "_law_within"))
  f_l_within : FnP K "_law_within" "_law_within" st_l_within (He.ga K "_law_within")
  g_l_way_right : mg "_law_way_right" = some (.ref (He.ga K "_law_way_right"))
  f_l_way_right : FnP K "_law_way_right" "_law_way_right" st_l_way_right (He.ga K "_law_way_right")
  g_l_again : mg "_law_again" = some (.ref (He.ga K "_law_again"))
  f_l_again : FnP K "_law_again" "_law_again" st_l_again (He.ga K "_law_again")
  g_l_paper_right : mg "_law_paper_right" = some (.ref (He.ga K "_law_paper_right"))
  f_l_paper_right : FnP K "_law_paper_right" "_law_paper_right" st_l_paper_right (He.ga K "_law_paper_right")
  g_l_asked_right : mg "_law_asked_right" = some (.ref (He.ga K "_law_asked_right"))
  f_l_asked_right : FnP K "_law_asked_right" "_law_asked_right" st_l_asked_right (He.ga K "_law_asked_right")
  g_l_by_hand_right : mg "_law_by_hand_right" = some (.ref (He.ga K "_law_by_hand_right"))
  f_l_by_hand_right : FnP K "_law_by_hand_right" "_law_by_hand_right" st_l_by_hand_right (He.ga K "_law_by_hand_right")
  g_l_right : mg "_law_right" = some (.ref (He.ga K "_law_right"))
  f_l_right : FnP K "_law_right" "_law_right" st_l_right (He.ga K "_law_right")
  g_law : mg "law" = some (.ref (He.ga K "law"))
  f_law : FnP K "law" "law" st_law (He.ga K "law")
  m_F_init : Meth K (FC K) "__init__" (He.ma K (FC K) "__init__")
  f_F_init : FnP K "__init__" "Finder.__init__" st_F_init (He.ma K (FC K) "__init__")
  m_F_keep : Meth K (FC K) "keep" (He.ma K (FC K) "keep")
  f_F_keep : FnP K "keep" "Finder.keep" st_F_keep (He.ma K (FC K) "keep")
  m_F_check : Meth K (FC K) "check" (He.ma K (FC K) "check")
  f_F_check : FnP K "check" "Finder.check" st_F_check (He.ma K (FC K) "check")
  m_F_answered : Meth K (FC K) "answered" (He.ma K (FC K) "answered")
  f_F_answered : FnP K "answered" "Finder.answered" st_F_answered (He.ma K (FC K) "answered")
  m_F_greatest : Meth K (FC K) "greatest" (He.ma K (FC K) "greatest")
  f_F_greatest : FnP K "greatest" "Finder.greatest" st_F_greatest (He.ma K (FC K) "greatest")
  m_F_forced : Meth K (FC K) "forced" (He.ma K (FC K) "forced")
  f_F_forced : FnP K "forced" "Finder.forced" st_F_forced (He.ma K (FC K) "forced")
  m_F_found : Meth K (FC K) "found" (He.ma K (FC K) "found")
  f_F_found : FnP K "found" "Finder.found" st_F_found (He.ma K (FC K) "found")
  m_F_another : Meth K (FC K) "another" (He.ma K (FC K) "another")
  f_F_another : FnP K "another" "Finder.another" st_F_another (He.ma K (FC K) "another")
  m_F_sure : Meth K (FC K) "sure" (He.ma K (FC K) "sure")
  f_F_sure : FnP K "sure" "Finder.sure" st_F_sure (He.ma K (FC K) "sure")
  m_F_next_ask : Meth K (FC K) "next_ask" (He.ma K (FC K) "next_ask")
  f_F_next_ask : FnP K "next_ask" "Finder.next_ask" st_F_next_ask (He.ma K (FC K) "next_ask")
  m_F_asks : Meth K (FC K) "asks" (He.ma K (FC K) "asks")
  f_F_asks : FnP K "asks" "Finder.asks" st_F_asks (He.ma K (FC K) "asks")
  m_F_len : Meth K (FC K) "__len__" (He.ma K (FC K) "__len__")
  f_F_len : FnP K "__len__" "Finder.__len__" st_F_len (He.ma K (FC K) "__len__")
  g_Finder : mg "Finder" = some (.ref (FC K))
  g_ALWAYS : mg "ALWAYS" = some (.ref (He.ga K "ALWAYS"))
  mkF : L2.Mk K (FC K) (He.ma K (FC K) "__init__")
  cl : Cls K (FC K)
  n_own_names : NoAttr K (FC K) "own_names"
  n_own_most : NoAttr K (FC K) "own_most"
  n_own_short : NoAttr K (FC K) "own_short"
  n_own_asks : NoAttr K (FC K) "own_asks"
  n_own_whole : NoAttr K (FC K) "own_whole"
  b_len : mg "len" = none
  b_any : mg "any" = none
  b_all : mg "all" = none
  b_tuple : mg "tuple" = none
  b_list : mg "list" = none
  b_sorted : mg "sorted" = none
  b_set : mg "set" = none
  b_isinstance : mg "isinstance" = none
  b_range : mg "range" = none
  b_abs : mg "abs" = none
  b_int : mg "int" = none
  b_min : mg "min" = none
  b_enumerate : mg "enumerate" = none
  b_zip : mg "zip" = none
  b_bool : mg "bool" = none
  b_str : mg "str" = none
  alw : ∀ H : Hp, SqT K H (He.ga K "ALWAYS") [.ref (alw0 K)] ∧ SqT K H (alw0 K) []
theorem txt_of {K : PySem.W.Frag} {h : Heap} {mg : Str → Option Value} (X : K.In h) (G : h.Ns mainGlobals mg) (c : He.SaysD fa fn K) (e : ex K = true) : Txt K mg where
  g_tupled := He.glo_ok X G (c.fact 0 (f := .glo "tupled") rfl)
  f_tupled := c.def_ 0 (d := dd_tupled) rfl
  g_begun := He.glo_ok X G (c.fact 1 (f := .glo "begun") rfl)
  f_begun := c.def_ 1 (d := dd_begun) rfl
  g_is_part := He.glo_ok X G (c.fact 2 (f := .glo "is_part") rfl)
  f_is_part := c.def_ 2 (d := dd_is_part) rfl
  g_in_order := He.glo_ok X G (c.fact 3 (f := .glo "in_order") rfl)
  f_in_order := c.def_ 3 (d := dd_in_order) rfl
  g_least_of := He.glo_ok X G (c.fact 4 (f := .glo "least_of") rfl)
  f_least_of := c.def_ 4 (d := dd_least_of) rfl
  g_base_of := He.glo_ok X G (c.fact 5 (f := .glo "base_of") rfl)
  f_base_of := c.def_ 5 (d := dd_base_of) rfl
  g_does := He.glo_ok X G (c.fact 6 (f := .glo "does") rfl)
  f_does := c.def_ 6 (d := dd_does) rfl
  g_step := He.glo_ok X G (c.fact 7 (f := .glo "step") rfl)
  f_step := c.def_ 7 (d := dd_step) rfl
  g_short_logs := He.glo_ok X G (c.fact 8 (f := .glo "short_logs") rfl)
  f_short_logs := c.def_ 8 (d := dd_short_logs) rfl
  g_parts_in := He.glo_ok X G (c.fact 9 (f := .glo "parts_in") rfl)
  f_parts_in := c.def_ 21 (d := dd_parts_in) rfl
  g_open_logs := He.glo_ok X G (c.fact 10 (f := .glo "open_logs") rfl)
  f_open_logs := c.def_ 22 (d := dd_open_logs) rfl
  g_sure_by := He.glo_ok X G (c.fact 11 (f := .glo "sure_by") rfl)
  f_sure_by := c.def_ 23 (d := dd_sure_by) rfl
  g_shows := He.glo_ok X G (c.fact 12 (f := .glo "shows") rfl)
  f_shows := c.def_ 24 (d := dd_shows) rfl
  g_undone_logs := He.glo_ok X G (c.fact 13 (f := .glo "undone_logs") rfl)
  f_undone_logs := c.def_ 25 (d := dd_undone_logs) rfl
  g_fewest_cover := He.glo_ok X G (c.fact 14 (f := .glo "fewest_cover") rfl)
  f_fewest_cover := c.def_ 26 (d := dd_fewest_cover) rfl
  g_paper := He.glo_ok X G (c.fact 15 (f := .glo "paper") rfl)
  f_paper := c.def_ 27 (d := dd_paper) rfl
  g_l_box := He.glo_ok X G (c.fact 16 (f := .glo "_law_box") rfl)
  f_l_box := c.def_ 28 (d := dd_l_box) rfl
  g_l_take := He.glo_ok X G (c.fact 17 (f := .glo "_law_take") rfl)
  f_l_take := c.def_ 29 (d := dd_l_take) rfl
  g_l_cells := He.glo_ok X G (c.fact 18 (f := .glo "_law_cells") rfl)
  f_l_cells := c.def_ 30 (d := dd_l_cells) rfl
  g_l_of := He.glo_ok X G (c.fact 19 (f := .glo "_law_of") rfl)
  f_l_of := c.def_ 31 (d := dd_l_of) rfl
  g_l_pick := He.glo_ok X G (c.fact 20 (f := .glo "_law_pick") rfl)
  f_l_pick := c.def_ 32 (d := dd_l_pick) rfl
  g_l_same := He.glo_ok X G (c.fact 21 (f := .glo "_law_same") rfl)
  f_l_same := c.def_ 33 (d := dd_l_same) rfl
  g_l_names := He.glo_ok X G (c.fact 22 (f := .glo "_law_names") rfl)
  f_l_names := c.def_ 34 (d := dd_l_names) rfl
  g_l_lies := He.glo_ok X G (c.fact 23 (f := .glo "_law_lies") rfl)
  f_l_lies := c.def_ 35 (d := dd_l_lies) rfl
  g_l_sorted := He.glo_ok X G (c.fact 24 (f := .glo "_law_sorted") rfl)
  f_l_sorted := c.def_ 36 (d := dd_l_sorted) rfl
  g_l_least := He.glo_ok X G (c.fact 25 (f := .glo "_law_least") rfl)
  f_l_least := c.def_ 37 (d := dd_l_least) rfl
  g_l_event_row := He.glo_ok X G (c.fact 26 (f := .glo "_law_event_row") rfl)
  f_l_event_row := c.def_ 38 (d := dd_l_event_row) rfl
  g_l_some_rows := He.glo_ok X G (c.fact 27 (f := .glo "_law_some_rows") rfl)
  f_l_some_rows := c.def_ 39 (d := dd_l_some_rows) rfl
  g_l_done := He.glo_ok X G (c.fact 28 (f := .glo "_law_done") rfl)
  f_l_done := c.def_ 40 (d := dd_l_done) rfl
  g_l_within := He.glo_ok X G (c.fact 29 (f := .glo "_law_within") rfl)
  f_l_within := c.def_ 41 (d := dd_l_within) rfl
  g_l_way_right := He.glo_ok X G (c.fact 30 (f := .glo "_law_way_right") rfl)
  f_l_way_right := c.def_ 42 (d := dd_l_way_right) rfl
  g_l_again := He.glo_ok X G (c.fact 31 (f := .glo "_law_again") rfl)
  f_l_again := c.def_ 43 (d := dd_l_again) rfl
  g_l_paper_right := He.glo_ok X G (c.fact 32 (f := .glo "_law_paper_right") rfl)
  f_l_paper_right := c.def_ 44 (d := dd_l_paper_right) rfl
  g_l_asked_right := He.glo_ok X G (c.fact 33 (f := .glo "_law_asked_right") rfl)
  f_l_asked_right := c.def_ 45 (d := dd_l_asked_right) rfl
  g_l_by_hand_right := He.glo_ok X G (c.fact 34 (f := .glo "_law_by_hand_right") rfl)
  f_l_by_hand_right := c.def_ 46 (d := dd_l_by_hand_right) rfl
  g_l_right := He.glo_ok X G (c.fact 35 (f := .glo "_law_right") rfl)
  f_l_right := c.def_ 47 (d := dd_l_right) rfl
  g_law := He.glo_ok X G (c.fact 36 (f := .glo "law") rfl)
  f_law := c.def_ 48 (d := dd_law) rfl
  m_F_init := He.meth_ok (c.fact 41 (f := .meth "Finder" "__init__") rfl)
  f_F_init := c.def_ 9 (d := dd_F_init) rfl
  m_F_keep := He.meth_ok (c.fact 42 (f := .meth "Finder" "keep") rfl)
  f_F_keep := c.def_ 10 (d := dd_F_keep) rfl
  m_F_check := He.meth_ok (c.fact 43 (f := .meth "Finder" "check") rfl)
  f_F_check := c.def_ 11 (d := dd_F_check) rfl
  m_F_answered := He.meth_ok (c.fact 44 (f := .meth "Finder" "answered") rfl)
  f_F_answered := c.def_ 12 (d := dd_F_answered) rfl
  m_F_greatest := He.meth_ok (c.fact 45 (f := .meth "Finder" "greatest") rfl)
  f_F_greatest := c.def_ 13 (d := dd_F_greatest) rfl
  m_F_forced := He.meth_ok (c.fact 46 (f := .meth "Finder" "forced") rfl)
  f_F_forced := c.def_ 14 (d := dd_F_forced) rfl
  m_F_found := He.meth_ok (c.fact 47 (f := .meth "Finder" "found") rfl)
  f_F_found := c.def_ 15 (d := dd_F_found) rfl
  m_F_another := He.meth_ok (c.fact 48 (f := .meth "Finder" "another") rfl)
  f_F_another := c.def_ 16 (d := dd_F_another) rfl
  m_F_sure := He.meth_ok (c.fact 49 (f := .meth "Finder" "sure") rfl)
  f_F_sure := c.def_ 17 (d := dd_F_sure) rfl
  m_F_next_ask := He.meth_ok (c.fact 50 (f := .meth "Finder" "next_ask") rfl)
  f_F_next_ask := c.def_ 18 (d := dd_F_next_ask) rfl
  m_F_asks := He.meth_ok (c.fact 51 (f := .meth "Finder" "asks") rfl)
  f_F_asks := c.def_ 19 (d := dd_F_asks) rfl
  m_F_len := He.meth_ok (c.fact 52 (f := .meth "Finder" "__len__") rfl)
  f_F_len := c.def_ 20 (d := dd_F_len) rfl
  g_Finder := He.glo_ok X G (c.fact 37 (f := .glo "Finder") rfl)
  g_ALWAYS := He.glo_ok X G (c.fact 38 (f := .glo "ALWAYS") rfl)
  mkF := He.mkr_ok (c.fact 39 (f := .mkr "Finder") rfl)
  cl := He.cls_ok (c.fact 40 (f := .cls "Finder") rfl)
  n_own_names := He.noat_ok (c.fact 53 (f := .noat "Finder" "own_names") rfl)
  n_own_most := He.noat_ok (c.fact 54 (f := .noat "Finder" "own_most") rfl)
  n_own_short := He.noat_ok (c.fact 55 (f := .noat "Finder" "own_short") rfl)
  n_own_asks := He.noat_ok (c.fact 56 (f := .noat "Finder" "own_asks") rfl)
  n_own_whole := He.noat_ok (c.fact 57 (f := .noat "Finder" "own_whole") rfl)
  b_len := He.free_ok X G (c.fact 58 (f := .free "len") rfl)
  b_any := He.free_ok X G (c.fact 59 (f := .free "any") rfl)
  b_all := He.free_ok X G (c.fact 60 (f := .free "all") rfl)
  b_tuple := He.free_ok X G (c.fact 61 (f := .free "tuple") rfl)
  b_list := He.free_ok X G (c.fact 62 (f := .free "list") rfl)
  b_sorted := He.free_ok X G (c.fact 63 (f := .free "sorted") rfl)
  b_set := He.free_ok X G (c.fact 64 (f := .free "set") rfl)
  b_isinstance := He.free_ok X G (c.fact 65 (f := .free "isinstance") rfl)
  b_range := He.free_ok X G (c.fact 66 (f := .free "range") rfl)
  b_abs := He.free_ok X G (c.fact 67 (f := .free "abs") rfl)
  b_int := He.free_ok X G (c.fact 68 (f := .free "int") rfl)
  b_min := He.free_ok X G (c.fact 69 (f := .free "min") rfl)
  b_enumerate := He.free_ok X G (c.fact 70 (f := .free "enumerate") rfl)
  b_zip := He.free_ok X G (c.fact 71 (f := .free "zip") rfl)
  b_bool := He.free_ok X G (c.fact 72 (f := .free "bool") rfl)
  b_str := He.free_ok X G (c.fact 73 (f := .free "str") rfl)
  alw := fun H => ⟨He.tupB_ok (vs := [.adr alw0]) (He.ba e).1 H, emptyTup_ok (He.ba e).2 H⟩
/-! ### scopes, bindings -/
theorem Rm65 {k : Nat} {A : Around} (r : Room k A) : A.units + 65 < cLine := by have := r.un; omega
section
variable (P : Program) (w : World) (K : PySem.W.Frag) (mg : Str → Option Value) (base : Heap)
/-- a def that is called by its name: its promise, kept by level k -/
structure Callee (k : Nat) (x : Str) (ps : List Str) (sp : Sp) : Prop where
  ex : ∃ f fd, FnOk P w K mg base CX0 k f fd ps sp ∧ mg x = some (.ref f) ∧ PySem.W.keepIn K (.ref f) = true ∧ Binds K fd ps []
structure MCallee (k : Nat) (C : Addr) (m : Str) (ps : List Str) (sp : Sp) : Prop where
  ex : ∃ f fd, FnOk P w K mg base CX0 k f fd ps sp ∧ Meth K C m f ∧ Binds K fd ps []
structure MkCallee (k : Nat) (C : Addr) (ps : List Str) (sp : Sp) : Prop where
  ex : ∃ f fd, FnOk P w K mg base CX0 k f fd ps sp ∧ L2.Mk K C f ∧ Binds K fd ps []
end
section
variable {P : Program} {w : World} {K : PySem.W.Frag} {mg : Str → Option Value} {base : Heap}
abbrev BindOk (x qual : Str) (st : Stmt) (ps : List Str) : Prop := ∀ (kV doc pm : Value) (an : Option Addr) (cdv ct : Value) (us : List Value), us.length = ps.length → bindArgs (PySem.W.fnOf x qual (defArgs st) (defBody st) (defScope st) .none kV doc pm an cdv ct) ⟨us, []⟩ = pure (ps.zip us)
/-- the body keeps the promise, at level k within -/
abbrev BodyOk (P : Program) (w : World) (K : PySem.W.Frag) (mg : Str → Option Value) (base : Heap) (k : Nat) (N : List Str) (qual : Str) (st : Stmt) (f : Addr) (sp : Sp) : Prop :=
  ∀ (cdv : Value) (A : Around) (outer : List Env) (s : Shared) (H : Hp) (vs : List V) (Q : VK) (E : XK), Room k (A.deeper (envOfC qual (defScope st) s.heap.objs.size f cdv)) → sp vs H Q E →
      ∃ t, PSs (cxOf CX0 P w K mg base N qual (defScope st) f cdv A outer s H E).nox (defBody st) t ∧ t { nx := fun _ H' => Q .non H', rt := Q } (start N vs) H
theorem fnOk_of {x qual : Str} {st : Stmt} {f : Addr} {fd : FuncData} {N ps : List Str} {k : Nat} {sp : Sp} (F : FunD K x qual (defArgs st) (defBody st) (defScope st) [] [] f fd) (S : FnScope N ps (defScope st)) (len : ∀ vs H Q E, sp vs H Q E → vs.length = ps.length)
    (hbody : BodyOk P w K mg base k N qual st f sp) : FnOk P w K mg base CX0 (k + 1) f fd ps sp :=
  F.ok S len fun cdv A outer s H vs Q E hr h => by
    obtain ⟨t, h1, h2⟩ := hbody cdv A outer s H vs Q E hr h
    exact ⟨t, h1.nox, h2⟩
theorem callee_of {x qual : Str} {st : Stmt} {f : Addr} {N ps : List Str} {k : Nat} {sp : Sp} (F : FnP K x qual st f) (g : mg x = some (.ref f)) (S : FnScope N ps (defScope st)) (hb : BindOk x qual st ps) (len : ∀ vs H Q E, sp vs H Q E → vs.length = ps.length)
    (hbody : BodyOk P w K mg base k N qual st f sp) : Callee P w K mg base (k + 1) x ps sp := by
  obtain ⟨fd, F⟩ := F
  exact ⟨f, fd, fnOk_of F S len hbody, g, F.kp, F.bindsN hb⟩
theorem mcallee_of {x qual : Str} {st : Stmt} {f C : Addr} {N ps : List Str} {k : Nat} {sp : Sp} (F : FnP K x qual st f) (m : Meth K C x f) (S : FnScope N ps (defScope st)) (hb : BindOk x qual st ps) (len : ∀ vs H Q E, sp vs H Q E → vs.length = ps.length)
    (hbody : BodyOk P w K mg base k N qual st f sp) : MCallee P w K mg base (k + 1) C x ps sp := by
  obtain ⟨fd, F⟩ := F
  exact ⟨f, fd, fnOk_of F S len hbody, m, F.bindsN hb⟩
theorem mkcallee_of {x qual : Str} {st : Stmt} {f C : Addr} {N ps : List Str} {k : Nat} {sp : Sp} (F : FnP K x qual st f) (m : L2.Mk K C f) (S : FnScope N ps (defScope st)) (hb : BindOk x qual st ps) (len : ∀ vs H Q E, sp vs H Q E → vs.length = ps.length)
    (hbody : BodyOk P w K mg base k N qual st f sp) : MkCallee P w K mg base (k + 1) C ps sp := by
  obtain ⟨fd, F⟩ := F
  exact ⟨f, fd, fnOk_of F S len hbody, m, F.bindsN hb⟩
end
section
variable {X : Cx} {k j : Nat} {C : Addr} {ps : List Str} {sp : Sp} {x m : Str} {p pos apos : Pos} {e o : Expr} {es : List Expr} {ta : TE} {t : TA}
theorem pe_callC (F : Callee X.prog X.w X.K X.mg X.base k x ps sp) (hr : Room j X.A) (hk : k ≤ j) (hg : Gl X x) (ha : PA X (e :: es) t) (hdb : (x == ("__debug__" : Str)) = false := by decide) (he : starEach (e :: es) X.env = (false, eval e X.env) :: starEach es X.env := by rfl)
    (hpl : (backTo pos (starEach es X.env)).any (·.1) = false := by rfl) : PE X (.Call (.Name x p) (e :: es) [] pos) (tCall sp [] E0 t) := by
  obtain ⟨f, fd, F, g, kp, b⟩ := F.ex
  exact pe_call F (hr.mono hk) hg g kp b .nil pass0 ha hdb he hpl
theorem pe_callC0 (F : Callee X.prog X.w X.K X.mg X.base k x ps sp) (hr : Room j X.A) (hk : k ≤ j) (hg : Gl X x) (hdb : (x == ("__debug__" : Str)) = false := by decide) : PE X (.Call (.Name x p) [] [] pos) (tCall sp [] E0 tNil) := by
  obtain ⟨f, fd, F, g, kp, b⟩ := F.ex
  exact pe_call0 F (hr.mono hk) hg g kp b .nil pass0 hdb
theorem pe_methC {pl : Sem Bool} (F : MCallee X.prog X.w X.K X.mg X.base k C m ps sp) (ho : PE X o ta) (cl : Cls X.K C) (hr : Room j X.A) (hk : k ≤ j) (ha : PA X (e :: es) t)
    (hst : starEach (e :: es) X.env = (false, eval e X.env) :: starEach es X.env := by rfl) (hpl : (backTo pos (starEach es X.env)).any (·.1) = false := by rfl)
    (ht : eval (.Call (.Attribute o m apos) (e :: es) [] pos) X.env = (do
      let ov ← eval o X.env
      standAt apos.atName
      let (f, first) ← holding [ov] (getMethod ov m pl)
      callWith pos f first (backTo pos (starEach (e :: es) X.env)) (backToKw pos (keywordEach [] X.env))) := by rfl) : PE X (.Call (.Attribute o m apos) (e :: es) [] pos) (tMeth C m sp [] E0 ta t) := by
  obtain ⟨f, fd, F, mm, b⟩ := F.ex
  exact pe_meth ho cl mm F (hr.mono hk) b .nil pass0 ha hst hpl ht
theorem pe_methC0 {pl : Sem Bool} (F : MCallee X.prog X.w X.K X.mg X.base k C m ps sp) (ho : PE X o ta) (cl : Cls X.K C) (hr : Room j X.A) (hk : k ≤ j)
    (ht : eval (.Call (.Attribute o m apos) [] [] pos) X.env = (do
      let ov ← eval o X.env
      standAt apos.atName
      let (f, first) ← holding [ov] (getMethod ov m pl)
      callWith pos f first (backTo pos (starEach [] X.env)) (backToKw pos (keywordEach [] X.env))) := by rfl) : PE X (.Call (.Attribute o m apos) [] [] pos) (tMeth C m sp [] E0 ta tNil) := by
  obtain ⟨f, fd, F, mm, b⟩ := F.ex
  exact pe_meth0 ho cl mm F (hr.mono hk) b .nil pass0 ht
theorem pe_makeC (F : MkCallee X.prog X.w X.K X.mg X.base k C ps sp) (hr : Room j X.A) (hk : k + 1 ≤ j) (hg : Gl X x) (hm : X.mg x = some (.ref C)) (ha : PA X (e :: es) t) (hdb : (x == ("__debug__" : Str)) = false := by decide) (he : starEach (e :: es) X.env = (false, eval e X.env) :: starEach es X.env := by rfl)
    (hpl : (backTo pos (starEach es X.env)).any (·.1) = false := by rfl) : PE X (.Call (.Name x p) (e :: es) [] pos) (tMake C sp [] E0 t) := by
  obtain ⟨f, fd, F, mm, b⟩ := F.ex
  exact pe_make mm F (hr.mono hk) hg hm b .nil pass0 ha hdb he hpl
end
end Mk
/-! ## MkLayer5 -/
set_option autoImplicit true
set_option Elab.async false
set_option linter.all false
set_option maxRecDepth 100000
set_option maxHeartbeats 4000000
namespace Mk
open PySem PySem.Spec PyProof.Rows L2
/-! ### lists that grow while a def runs -/
def unknow (G : Hp) (p : Addr) : Hp := fun a => if a = p then none else G a
section
variable {c : Ctx} {K : PySem.W.Frag} {σ : St} {G G' G0 H0 G1 H1 H : Hp} {te ta tb tl : TE} {tt tu : TT} {φ ψ χ : PyData → Prop} {d e : PyData} {ds es : List PyData} {v : V} {B : Addr → Prop} {p : Addr} {o : HO} {tz : TS} {D : Ends}
theorem unknow_self : unknow G p p = none := if_pos rfl
theorem unknow_some {a : Addr} {u : HO} (h : unknow G p a = some u) : a ≠ p ∧ G a = some u := by
  unfold unknow at h
  by_cases e : a = p
  · rw [if_pos e] at h
    cases h
  · rw [if_neg e] at h
    exact ⟨e, h⟩
theorem unknow_of {a : Addr} {u : HO} (n : a ≠ p) (h : G a = some u) : unknow G p a = some u := by
  unfold unknow
  rw [if_neg n]
  exact h
theorem same_know (s : Same G H) (hp : H p = some o) : Same (upd G p o) H := fun a u h => by
  rcases upd_some_of h with ⟨rfl, rfl⟩ | ⟨_, h⟩
  · exact hp
  · exact s a u h
theorem same_upd (hg : G p = none) : Same G (upd G p o) := same_new hg
theorem Grow.unknow (x : Grow B (upd G p o) H G1 H1) (hg : G p = none) : Grow B G H (unknow G1 p) H1 where
  g := fun a u h => unknow_of (ne_of_none h hg) (x.g a u (same_upd hg a u h))
  h := x.h
  s := fun a u h => x.s a u (unknow_some h).2
  n := fun a u h => by
    obtain ⟨n, h⟩ := unknow_some h
    rcases x.n a u h with z | z
    · exact .inl z
    · rw [upd_ne n] at z
      exact .inr z
  t := x.t
theorem et_hold {φ : Bool → Prop} (h : EvT c tt σ (upd G p o) φ) (s : Same G H) (hp : H p = some o) (hg : G p = none) (nb : ¬ c.B p) (j : c.J H) {Q : Bool → Hp → Prop}
    (k : ∀ b G1 H1, Grow c.B G H G1 H1 → c.J H1 → G1 p = none → H1 p = some o → φ b → Q b H1) : tt σ H Q :=
  h (upd G p o) H (Same.refl _) (same_know s hp) j Q fun b G1 H1 g1 j1 q => k b _ H1 (g1.unknow hg) j1 unknow_self (g1.h _ _ nb hp) q
/-- a value that is the same whatever is known -/
theorem ev_hold (h : Ev c K te σ (upd G p o) φ) (hφ : ∀ v d G1, φ d → Dp K G1 v d → ∀ G2, Dp K G2 v d) (s : Same G H) (hp : H p = some o) (hg : G p = none) (nb : ¬ c.B p) (j : c.J H) {Q : VK}
    (k : ∀ v d G1 H1, Grow c.B G H G1 H1 → c.J H1 → G1 p = none → H1 p = some o → Dp K G1 v d → φ d → Q v H1) : te σ H Q :=
  h (upd G p o) H (Same.refl _) (same_know s hp) j Q fun v d G1 H1 g1 j1 d1 q => k v d _ H1 (g1.unknow hg) j1 unknow_self (g1.h _ _ nb hp) (hφ v d G1 q d1 _) q
/-- a list under way: the items are data -/
structure ML (K : PySem.W.Frag) (f : Addr) (G H : Hp) (ds : List PyData) : Prop where
  ex : G f = none ∧ ∃ acc, H f = some (.lst acc) ∧ DpAll K G acc ds
theorem ML.grow (m : ML K p G H ds) (nb : ¬ B p) (x : Grow B G H G1 H1) : ML K p G1 H1 ds := by
  obtain ⟨h0, acc, h1, h2⟩ := m.ex
  exact ⟨x.none1 (by rw [h1]; exact fun z => nomatch z) h0, acc, x.h _ _ nb h1, dpa_mono x.g _ _ h2⟩
theorem ML.grow0 (m : ML K p G H ds) (x : Grow B0 G H G1 H1) : ML K p G1 H1 ds := m.grow (fun z => z) x
/-- the list is done: from now on it is known -/
theorem ML.done (m : ML K p G H ds) : ∃ acc, H p = some (.lst acc) ∧ Dp K (upd G p (.lst acc)) (.ref p) (.list ds) := by
  obtain ⟨h0, acc, h1, h2⟩ := m.ex
  exact ⟨acc, h1, .lst (.inl (.inl upd_same)) (dpa_mono (same_new h0) _ _ h2)⟩
/-- x = [..] and what follows -/
theorem q_lst {i : Nat} {t : TA} (h : EX c K t σ G ds) (hl : ds.length ≤ 100000) (s : Same G H) (j : c.J H) (k : ∀ p G1 H1, H p = none → Grow c.B G H G1 H1 → c.J H1 → ML K p G1 H1 ds → tz D (σ.set i (some (.ref p))) H1) : tSeq (tAsg (tLst t) (gName i)) tz D σ H :=
  h G H (Same.refl G) s j _ fun vs G1 H1 g1 j1 z => by
    refine ⟨by rw [dpa_len z]; exact Nat.le_trans hl (by decide), fun p hp => ?_⟩
    have h0 : H p = none := by
      cases e : H p with
      | none => rfl
      | some u => exact absurd hp (g1.t p (by rw [e]; exact fun z => nomatch z))
    have n1 : G1 p = none := g1.s.free hp
    exact k p G1 _ h0 (g1.trans ((Grow.refl g1.s).mut (.inl hp) n1)) (c.new j1 hp) ⟨n1, vs, upd_same, z⟩
/-- xs.append(e) -/
theorem app_core {i : Nat} {f : Addr} (hv : σ[i]? = some (some (.ref f))) (m : ML K f G H ds) (h : Ev c K te σ G φ) (s : Same G H) (j : c.J H) (nP : ¬ c.P f) (hl : ds.length < 100000) {Q : VK}
    (k : ∀ d G1 H1, (∀ G0 H0, Grow c.B G0 H0 G H → H0 f = none → Grow c.B G0 H0 G1 H1) → (∀ f' es, f' ≠ f → ¬ c.B f' → ML K f' G H es → ML K f' G1 H1 es) → c.J H1 → φ d → ML K f G1 H1 (ds ++ [d]) → Same G G1 → Same G1 H1 → Q .non H1) : tBM K "list" rAppend (tVar i) (tCons te tNil) σ H Q := by
  obtain ⟨h0, acc, h1, h2⟩ := m.ex
  have nB : ¬ c.B f := fun z => nP (c.bp f z)
  refine ⟨.ref f, hv, .inl ⟨rfl, acc, .inl (.inl h1)⟩, h G H (Same.refl G) s j _ fun v d G1 H1 g1 j1 d1 p1 => ?_⟩
  have f1 : H1 f = some (.lst acc) := g1.h _ _ nB h1
  have n1 : G1 f = none := g1.none1 (by rw [h1]; exact fun z => nomatch z) h0
  have s1 : Same G1 (upd H1 f (.lst (acc ++ [v]))) := fun a u q => by
    rw [upd_ne (ne_of_none q n1)]
    exact g1.s a u q
  refine ⟨f, acc, v, rfl, rfl, f1, by rw [dpa_len h2]; exact Nat.lt_of_lt_of_le hl (by decide), k d G1 _ (fun G0 H0 x hn => (x.trans g1).mut (.inl hn) n1) (fun f' es' ne nb' m' => ?_) (c.mut j1 nP) p1 ⟨n1, _, upd_same, dpa_app (dpa_mono g1.g _ _ h2) (.cons d1 .nil)⟩ g1.g s1⟩
  obtain ⟨m0, ac, m1, m2⟩ := (m'.grow nb' g1).ex
  exact ⟨m0, ac, by rw [upd_ne ne]; exact m1, m2⟩
theorem st_append {i : Nat} {f : Addr} (hv : σ[i]? = some (some (.ref f))) (m : ML K f G H ds) (h : Ev c K te σ G φ) (s : Same G H) (j : c.J H) (nP : ¬ c.P f) (hl : ds.length < 100000)
    (k : ∀ d G1 H1, (∀ G0 H0, Grow c.B G0 H0 G H → H0 f = none → Grow c.B G0 H0 G1 H1) → (∀ f' es, f' ≠ f → ¬ c.B f' → ML K f' G H es → ML K f' G1 H1 es) → c.J H1 → φ d → ML K f G1 H1 (ds ++ [d]) → Same G G1 → Same G1 H1 → D.nx σ H1) : tDrop (tBM K "list" rAppend (tVar i) (tCons te tNil)) D σ H :=
  app_core hv m h s j nP hl k
theorem q_append {i : Nat} {f : Addr} (hv : σ[i]? = some (some (.ref f))) (m : ML K f G H ds) (h : Ev c K te σ G φ) (s : Same G H) (j : c.J H) (nP : ¬ c.P f) (hl : ds.length < 100000)
    (k : ∀ d G1 H1, (∀ G0 H0, Grow c.B G0 H0 G H → H0 f = none → Grow c.B G0 H0 G1 H1) → (∀ f' es, f' ≠ f → ¬ c.B f' → ML K f' G H es → ML K f' G1 H1 es) → c.J H1 → φ d → ML K f G1 H1 (ds ++ [d]) → Same G G1 → Same G1 H1 → tz D σ H1) : tSeq (tDrop (tBM K "list" rAppend (tVar i) (tCons te tNil))) tz D σ H :=
  app_core (Q := fun _ H1 => tz D σ H1) hv m h s j nP hl k
/-- xs.extend(ys), ys another list under way -/
theorem ext_core {i i2 : Nat} {f b : Addr} (hv : σ[i]? = some (some (.ref f))) (hv2 : σ[i2]? = some (some (.ref b))) (ne : b ≠ f) (m : ML K f G H ds) (m2 : ML K b G H es) (s : Same G H) (j : c.J H) (nP : ¬ c.P f) (hl : ds.length + es.length < 100000) {Q : VK}
    (k : ∀ H1, (∀ G0 H0, Grow c.B G0 H0 G H → H0 f = none → Grow c.B G0 H0 G H1) → c.J H1 → ML K f G H1 (ds ++ es) → ML K b G H1 es → Same G H1 → Q .non H1) : tBM K "list" rExtend (tVar i) (tCons (tVar i2) tNil) σ H Q := by
  obtain ⟨h0, acc, h1, h2⟩ := m.ex
  obtain ⟨b0, bcc, b1, b2⟩ := m2.ex
  refine ⟨.ref f, hv, .inl ⟨rfl, acc, .inl (.inl h1)⟩, .ref b, hv2, f, b, acc, bcc, rfl, rfl, h1, b1, ?_, k _ (fun G0 H0 x hn => x.mut (.inl hn) h0) (c.mut j nP) ⟨h0, _, upd_same, dpa_app h2 b2⟩ ⟨b0, bcc, by rw [upd_ne ne]; exact b1, b2⟩ fun a u q => ?_⟩
  · rw [dpa_len h2, dpa_len b2]
    exact Nat.le_trans (Nat.le_of_lt hl) (by decide)
  · rw [upd_ne (ne_of_none q h0)]
    exact s a u q
/-! ### two targets -/
theorem lct_pair {vs : List Nat} {i j : Nat} {d1 d2 : PyData} {T : Bool → Prop} {R : PyData → Prop} (h : Dp K G v (.tuple [d1, d2])) (hw : ∀ v1 v2, wipe (((wipe σ vs).set i (some v1)).set j (some v2)) vs = wipe σ vs)
    (h1 : ∀ v1 v2, Dp K G v1 d1 → Dp K G v2 d2 → EvT c tt (((wipe σ vs).set i (some v1)).set j (some v2)) G T)
    (h2 : ∀ v1 v2, Dp K G v1 d1 → Dp K G v2 d2 → T true → Ev c K te (((wipe σ vs).set i (some v1)).set j (some v2)) G R) : LcTurn c K (gTup K 2 (gCons (gName i) (gCons (gName j) gNil))) tt te vs σ G v T R := by
  obtain ⟨v1, v2, a1, a2, t⟩ := tg_pair (i := i) (j := j) (σ := wipe σ vs) h
  exact ⟨_, t, hw v1 v2, h1 v1 v2 a1 a2, h2 v1 v2 a1 a2⟩
/-! ### two walks in one comprehension -/
/-- a new list, not yet known -/
def EvL (c : Ctx) (K : PySem.W.Frag) (te : TE) (σ : St) (G : Hp) (ds : List PyData) : Prop := ∀ G0 H, Same G G0 → Same G0 H → c.J H → ∀ Q : VK,
  (∀ p G1 H1, H p = none → Grow c.B G0 H G1 H1 → c.J H1 → ML K p G1 H1 ds → Q (.ref p) H1) → te σ H Q
theorem EvL.ev (h : EvL c K te σ G ds) : Ev c K te σ G (is (.list ds)) := fun G0 H a b j Q q => h G0 H a b j Q fun p G1 H1 hn g1 j1 m => by
  obtain ⟨acc, h1, h2⟩ := m.done
  exact q _ _ _ H1 (g1.know hn h1 b) j1 h2 rfl
/-- [e for x in xs for y in ys] -/
theorem evL_lc2 {α β : Type} {wi wi1 : TI} {g g1 : TG} {vs vs1 : List Nat} {te : TE} (enc : α → PyData) (enc1 : β → PyData) (xs : List α) (ys : List β) (el : α → β → PyData) (hs : EvS c K wi σ G (is (xs.map enc))) (hl : xs.length * ys.length < 100000)
    (ht : ∀ x G1 v, x ∈ xs → Same G G1 → Dp K G1 v (enc x) → ∃ σ2, TgOk g (wipe σ vs) G1 v σ2 ∧ wipe σ2 vs = wipe σ vs ∧ EvS c K wi1 σ2 G1 (is (ys.map enc1)) ∧
      ∀ y G2 v2, y ∈ ys → Same G1 G2 → Dp K G2 v2 (enc1 y) → ∃ σ3, TgOk g1 (wipe σ2 vs1) G2 v2 σ3 ∧ wipe σ3 vs1 = wipe σ2 vs1 ∧ Ev c K te σ3 G2 (is (el x y))) :
    EvL c K (tLc2 wi g tYes wi1 g1 tYes te vs vs1) σ G ((xs.map fun x => ys.map fun y => el x y).flatten) := fun G0 H a b j Q q => hs G0 H a b j _ fun J ds0 G1 H1 gg1 j1 S e0 => by
  subst e0
  intro D hD
  have hnP : ¬ c.P D := c.notP j1 hD
  have hnB : ¬ c.B D := fun z => hnP (c.bp D z)
  have hHD : H D = none := by
    cases e : H D with
    | none => rfl
    | some u => exact absurd hD (gg1.t D (by rw [e]; exact fun z => nomatch z))
  have hlen : (xs.map enc).length = xs.length := List.length_map ..
  have hflen : ∀ l : List α, (l.map fun x => ys.map fun y => el x y).flatten.length = l.length * ys.length := by
    intro l
    induction l with
    | nil => simp
    | cons x l ih => rw [List.map_cons, List.flatten_cons, List.length_append, ih, List.length_map, List.length_cons, Nat.succ_mul, Nat.add_comm]
  let F := fun (l : List α) => (l.map fun x => ys.map fun y => el x y).flatten
  refine ⟨fun i m H2 => m = xs.length - i ∧ i ≤ xs.length ∧ ∃ G2, Grow c.B G1 H1 G2 H2 ∧ c.J H2 ∧ ML K D G2 H2 (F (xs.take i)),
    ⟨xs.length, by simp, Nat.zero_le _, G1, (Grow.refl gg1.s).mut (.inl hD) (gg1.s.free hD), c.new j1 hD, ⟨gg1.s.free hD, [], upd_same, .nil⟩⟩, ?_⟩
  rintro i m H2 ⟨rfl, hi, G2, gr, j2, ml⟩
  by_cases hlt : i < xs.length
  · have hx : xs[i]? = some xs[i] := List.getElem?_eq_getElem hlt
    generalize xs[i] = x at hx
    have hdx : (xs.map enc)[i]? = some (enc x) := by rw [List.getElem?_map, hx]; rfl
    refine .inr ⟨S.go i H2 (gr.g.trans gr.s) (by rw [hlen]; exact hlt), fun H3 => ∃ G3, Grow c.B G1 H1 G3 H3 ∧ c.J H3 ∧ ML K D G3 H3 (F (xs.take (i + 1))),
      fun H3 ⟨G3, x1⟩ => ⟨xs.length - (i + 1), by omega, rfl, hlt, G3, x1⟩, fun y H3 hy => ?_⟩
    obtain ⟨G3, gy, dy⟩ := S.yld i H2 y H3 G2 (enc x) gr.g gr.s hdx hy
    have gr3 : Grow c.B G1 H1 G3 H3 := gr.trans gy.wide
    obtain ⟨σ2, t1, t2, t3, t4⟩ := ht x G3 y (List.mem_of_getElem? hx) ((a.trans gg1.g).trans gr3.g) dy
    refine t1 H3 _ gy.s ⟨t2, ?_⟩
    show wi1 σ2 H3 _
    refine t3 G3 H3 (Same.refl _) gy.s (c.same j2 gy.same) _ fun J1 ds1 G4 H4 g4 j4 S1 e1 => ?_
    subst e1
    have m4 : ML K D G4 H4 (F (xs.take i)) := (ml.grow0 gy).grow hnB g4
    have gr4 : Grow c.B G1 H1 G4 H4 := gr3.trans g4
    have hlen1 : (ys.map enc1).length = ys.length := List.length_map ..
    have hbnd : (F (xs.take i)).length + ys.length ≤ xs.length * ys.length := by
      show (List.flatten _).length + _ ≤ _
      rw [hflen, List.length_take, Nat.min_eq_left hi, ← Nat.succ_mul]
      exact Nat.mul_le_mul_right _ hlt
    refine ⟨fun k m H5 => m = ys.length - k ∧ k ≤ ys.length ∧ ∃ G5, Same G4 G5 ∧ Grow c.B G1 H1 G5 H5 ∧ c.J H5 ∧ ML K D G5 H5 (F (xs.take i) ++ (ys.take k).map (el x)), ⟨ys.length, by simp, Nat.zero_le _, G4, Same.refl _, gr4, j4, by simpa using m4⟩, ?_⟩
    rintro k m H5 ⟨rfl, hk, G5, s5, gr5, j5, m5⟩
    by_cases hlt1 : k < ys.length
    · have hy' : ys[k]? = some ys[k] := List.getElem?_eq_getElem hlt1
      generalize ys[k] = y1 at hy'
      have hdy : (ys.map enc1)[k]? = some (enc1 y1) := by rw [List.getElem?_map, hy']; rfl
      refine .inr ⟨S1.go k H5 (s5.trans gr5.s) (by rw [hlen1]; exact hlt1), fun H6 => ∃ G6, Same G4 G6 ∧ Grow c.B G1 H1 G6 H6 ∧ c.J H6 ∧ ML K D G6 H6 (F (xs.take i) ++ (ys.take (k + 1)).map (el x)),
        fun H6 ⟨G6, x1⟩ => ⟨ys.length - (k + 1), by omega, rfl, hlt1, G6, x1⟩, fun z H6 hz => ?_⟩
      obtain ⟨G6, gz, dz⟩ := S1.yld k H5 z H6 G5 (enc1 y1) s5 gr5.s hdy hz
      obtain ⟨σ3, u1, u2, u3⟩ := t4 y1 G6 z (List.mem_of_getElem? hy') (g4.g.trans (s5.trans gz.g)) dz
      refine u1 H6 _ gz.s ⟨u2, ?_⟩
      show te σ3 H6 _
      refine u3 G6 H6 (Same.refl _) gz.s (c.same j5 gz.same) _ fun w dd G7 H7 g7 j7 d7 p7 => ?_
      subst p7
      obtain ⟨n7, acc, h7, d8⟩ := ((m5.grow0 gz).grow hnB g7).ex
      refine ⟨acc, h7, ?_, G7, (s5.trans gz.g).trans g7.g, ((gr5.trans gz.wide).trans g7).mut (.inl hD) n7, c.mut j7 hnP, n7, _, upd_same, ?_⟩
      · rw [dpa_len d8, List.length_append, List.length_map, List.length_take]
        exact Nat.lt_of_le_of_lt (Nat.le_trans (Nat.add_le_add_left (Nat.min_le_right _ _) _) hbnd) (Nat.lt_of_lt_of_le hl (by decide))
      · rw [take_succ' hy', List.map_append, ← List.append_assoc]
        exact dpa_app d8 (.cons d7 .nil)
    · have ek : k = ys.length := by omega
      subst ek
      rw [List.take_length] at m5
      refine .inl ⟨S1.stop _ H5 (s5.trans gr5.s) (by rw [hlen1]; exact Nat.le_refl _), G5, gr5, j5, ?_⟩
      have e : F (xs.take (i + 1)) = F (xs.take i) ++ ys.map (el x) := by
        show List.flatten _ = List.flatten _ ++ _
        rw [take_succ' hx, List.map_append, List.flatten_append]
        simp
      rw [e]
      exact m5
  · have e : i = xs.length := by omega
    subst e
    rw [List.take_length] at ml
    exact .inl ⟨S.stop _ H2 (gr.g.trans gr.s) (by rw [hlen]; exact Nat.le_refl _), q D G2 H2 hHD (gg1.trans gr) j2 ml⟩
end
end Mk
/-! ## MkLayer6 -/
set_option autoImplicit true
set_option Elab.async false
set_option linter.all false
set_option maxRecDepth 100000
set_option maxHeartbeats 4000000
namespace Mk
open PySem PySem.Spec PyProof.Rows L2
/-! ### slices -/
def cutD {α : Type} (ds : List α) (lo hi : Option Int) : List α := (ds.drop (HT.sIx ds.length 0 lo)).take (HT.sIx ds.length ds.length hi - HT.sIx ds.length 0 lo)
theorem cutD_map {α β : Type} (f : α → β) (l : List α) (lo hi : Option Int) : cutD (l.map f) lo hi = (cutD l lo hi).map f := by
  unfold cutD
  rw [List.length_map, List.map_take, List.map_drop]
theorem cutD_from {α : Type} (l : List α) (k : Nat) : cutD l (some (k : Int)) none = l.drop k := by
  unfold cutD
  rw [HT.sIx_nat, HT.sIx_none, List.take_of_length_le (by rw [List.length_drop]; omega)]
  rcases Nat.le_total k l.length with h | h
  · rw [Nat.min_eq_left h]
  · rw [Nat.min_eq_right h, List.drop_of_length_le (Nat.le_refl _), List.drop_of_length_le h]
theorem cutD_to {α : Type} (l : List α) (k : Nat) : cutD l none (some (k : Int)) = l.take k := by
  unfold cutD
  rw [HT.sIx_nat, HT.sIx_none, List.drop_zero, Nat.sub_zero]
  rcases Nat.le_total k l.length with h | h
  · rw [Nat.min_eq_left h]
  · rw [Nat.min_eq_right h, List.take_of_length_le (Nat.le_refl _), List.take_of_length_le h]
theorem cutD_mid {α : Type} (l : List α) (k m : Nat) : cutD l (some (k : Int)) (some (m : Int)) = (l.drop k).take (m - k) := by
  unfold cutD
  rw [HT.sIx_nat, HT.sIx_nat]
  rcases Nat.le_total k l.length with h | h
  · rw [Nat.min_eq_left h]
    rcases Nat.le_total m l.length with h2 | h2
    · rw [Nat.min_eq_left h2]
    · rw [Nat.min_eq_right h2, List.take_of_length_le (by rw [List.length_drop]; omega), List.take_of_length_le (by rw [List.length_drop]; omega)]
  · rw [Nat.min_eq_right h, List.drop_of_length_le (Nat.le_refl _), List.drop_of_length_le h, List.take_nil, List.take_nil]
theorem cutD_init {α : Type} (l : List α) : cutD l none (some (-1)) = l.dropLast := by
  unfold cutD
  rw [HT.sIx_none, List.drop_zero, Nat.sub_zero, List.dropLast_eq_take]
  congr 1
  show ((-1 : Int) + (l.length : Int)).toNat = _
  omega
theorem cutD_last {α : Type} (l : List α) : cutD l (some (-1)) none = l.drop (l.length - 1) := by
  unfold cutD
  have e : HT.sIx l.length 0 (some (-1)) = l.length - 1 := by
    show ((-1 : Int) + (l.length : Int)).toNat = _
    omega
  rw [e, HT.sIx_none, List.take_of_length_le (by rw [List.length_drop]; omega)]
section
variable {c : Ctx} {K : PySem.W.Frag} {σ : St} {G G' G0 H0 G1 H1 H : Hp} {te ta tb tl : TE} {tt tu : TT} {φ ψ χ : PyData → Prop} {d e : PyData} {ds es : List PyData} {v : V} {B : Addr → Prop} {p : Addr} {o : HO} {tz : TS} {D : Ends} {t1 t2 : TO} {lo hi : Option Int}
def EvO (c : Ctx) (t : TO) (σ : St) (G : Hp) (o : Option Int) : Prop := ∀ G0 H, Same G G0 → Same G0 H → c.J H → ∀ Q : Option Int → Hp → Prop, (∀ G1 H1, Grow c.B G0 H G1 H1 → c.J H1 → Q o H1) → t σ H Q
theorem eo_none : EvO c tNoPart σ G none := fun G0 H a b j Q q => q G0 H (Grow.refl b) j
theorem eo_some {i : Int} (h : Ev c K te σ G (is (.int i))) : EvO c (tPart te) σ G (some i) := fun G0 H a b j Q q => h G0 H a b j _ fun v d G1 H1 g1 j1 d1 p1 => by
  subst p1
  exact ⟨i, dp_int d1, q G1 H1 g1 j1⟩
theorem dpa_cut {vs : List V} (h : DpAll K G vs ds) : DpAll K G (L2.cutV vs lo hi) (cutD ds lo hi) := by
  unfold L2.cutV cutD
  rw [dpa_len h]
  exact dpa_take _ (dpa_drop _ h)
theorem ev_slT (h : Ev c K te σ G (is (.tuple ds))) (h1 : EvO c t1 σ G lo) (h2 : EvO c t2 σ G hi) : Ev c K (tSl (rSlA K) te t1 t2) σ G (is (.tuple (cutD ds lo hi))) :=
  fun G0 H a b j Q q => h G0 H a b j _ fun v d G1 H1 g1 j1 d1 p1 => h1 G1 H1 (a.trans g1.g) g1.s j1 _ fun G2 H2 g2 j2 => h2 G2 H2 ((a.trans g1.g).trans g2.g) g2.s j2 _ fun G3 H3 g3 j3 => by
    subst p1
    obtain ⟨x, xs, rfl, h3, h4⟩ := dp_tup d1
    have gg : Grow c.B G0 H G3 H3 := (g1.trans g2).trans g3
    have h4' : DpAll K G3 xs ds := dpa_mono (g2.g.trans g3.g) _ _ h4
    have h3' : SqT K H3 x xs := Same.sqT (g2.g.trans (g3.g.trans g3.s)) h3
    refine ⟨x, xs, rfl, h3', fun hw => ?_, fun hw p hp => ?_⟩
    · have e : cutD ds lo hi = ds := by
        unfold cutD
        rw [← dpa_len h4, hw.1, hw.2, List.drop_zero, Nat.sub_zero, dpa_len h4, List.take_length]
      rw [e] at q
      exact q _ _ G3 H3 gg j3 (.tup (Same.sqT (g2.g.trans g3.g) h3) h4') rfl
    · exact q _ _ _ _ (gg.trans (Grow.new g3.s hp)) (c.new j3 hp) (.tup (.inl (.inl upd_same)) (dpa_mono (same_new (g3.s.free hp)) _ _ (dpa_cut h4'))) rfl
theorem ev_slL (h : Ev c K te σ G (is (.list ds))) (h1 : EvO c t1 σ G lo) (h2 : EvO c t2 σ G hi) : Ev c K (tSl (rSlL K) te t1 t2) σ G (is (.list (cutD ds lo hi))) :=
  fun G0 H a b j Q q => h G0 H a b j _ fun v d G1 H1 g1 j1 d1 p1 => h1 G1 H1 (a.trans g1.g) g1.s j1 _ fun G2 H2 g2 j2 => h2 G2 H2 ((a.trans g1.g).trans g2.g) g2.s j2 _ fun G3 H3 g3 j3 => by
    subst p1
    obtain ⟨x, xs, rfl, h3, h4⟩ := dp_list d1
    have gg : Grow c.B G0 H G3 H3 := (g1.trans g2).trans g3
    have h4' : DpAll K G3 xs ds := dpa_mono (g2.g.trans g3.g) _ _ h4
    exact ⟨x, xs, rfl, (g2.g.trans (g3.g.trans g3.s)).seq h3, fun p hp => q _ _ _ _ (gg.trans (Grow.new g3.s hp)) (c.new j3 hp) (.lst (.inl (.inl upd_same)) (dpa_mono (same_new (g3.s.free hp)) _ _ (dpa_cut h4'))) rfl⟩
theorem ev_neg {i : Int} (h : Ev c K te σ G (is (.int i))) : Ev c K (tUn (rU fun i => .int (-i)) te) σ G (is (.int (-i))) := fun G0 H a b j Q q => h G0 H a b j _ fun v d G1 H1 g1 j1 d1 p1 => by
  subst p1
  exact ⟨i, dp_int d1, q _ _ G1 H1 g1 j1 (.int _) rfl⟩
/-! ### displays of a length that is told -/
theorem ev_tup1 (h : Ev c K te σ G (is d)) : Ev c K (tTup (tCons te tNil)) σ G (is (.tuple [d])) := ev_tupX (ex_cons h ex_nil) (by simp)
theorem ev_tup2 (h : Ev c K ta σ G (is d)) (h2 : Ev c K tb σ G (is e)) : Ev c K (tTup (tCons ta (tCons tb tNil))) σ G (is (.tuple [d, e])) := ev_tupX (ex_cons h (ex_cons h2 ex_nil)) (by simp)
theorem ev_lst1 (h : Ev c K te σ G (is d)) : Ev c K (tLst (tCons te tNil)) σ G (is (.list [d])) := ev_lstX (ex_cons h ex_nil) (by simp)
/-- a comprehension over one name, without what is left out -/
theorem ev_map {α : Type} {wi : TI} {vs : List Nat} {i : Nat} (enc : α → PyData) (xs : List α) (el : α → PyData) (hs : EvS c K wi σ G (is (xs.map enc))) (hl : xs.length ≤ 100000) (hw : ∀ v, wipe ((wipe σ vs).set i (some v)) vs = wipe σ vs)
    (ht : ∀ x G1 v, x ∈ xs → Same G G1 → Dp K G1 v (enc x) → Ev c K te ((wipe σ vs).set i (some v)) G1 (is (el x))) :
    Ev c K (tLc wi (gName i) tYes te vs) σ G (is (.list (xs.map el))) :=
  (ev_lc enc xs (fun _ => true) el hs hl fun x G1 v hx s1 dv => lct_name (hw v) et_yes fun _ => ht x G1 v hx s1 dv).to (by rw [List.filter_eq_self.mpr fun _ _ => rfl])
/-- .. with a test -/
theorem ev_pick {α : Type} {wi : TI} {vs : List Nat} {i : Nat} (enc : α → PyData) (xs : List α) (f : α → Bool) (el : α → PyData) (hs : EvS c K wi σ G (is (xs.map enc))) (hl : xs.length ≤ 100000) (hw : ∀ v, wipe ((wipe σ vs).set i (some v)) vs = wipe σ vs)
    (hf : ∀ x G1 v, x ∈ xs → Same G G1 → Dp K G1 v (enc x) → EvT c tt ((wipe σ vs).set i (some v)) G1 (is (f x)))
    (ht : ∀ x G1 v, x ∈ xs → Same G G1 → Dp K G1 v (enc x) → f x = true → Ev c K te ((wipe σ vs).set i (some v)) G1 (is (el x))) :
    Ev c K (tLc wi (gName i) tt te vs) σ G (is (.list ((xs.filter f).map el))) :=
  ev_lc enc xs f el hs hl fun x G1 v hx s1 dv => lct_name (hw v) (hf x G1 v hx s1 dv) fun e => ht x G1 v hx s1 dv e.symm
/-- any / all of a comprehension -/
theorem ev_anyMap {α : Type} {wi : TI} {vs : List Nat} {i : Nat} (enc : α → PyData) (xs : List α) (f : α → Bool) (hs : EvS c K wi σ G (is (xs.map enc))) (hl : xs.length ≤ 100000) (hw : ∀ v, wipe ((wipe σ vs).set i (some v)) vs = wipe σ vs)
    (ht : ∀ x G1 v, x ∈ xs → Same G G1 → Dp K G1 v (enc x) → Ev c K te ((wipe σ vs).set i (some v)) G1 (is (.bool (f x)))) :
    Ev c K (tCB (rAny K) (tCons (tLc wi (gName i) tYes te vs) tNil)) σ G (is (.bool (xs.any f))) :=
  (ev_any (bs := xs.map f) ((ev_map enc xs (fun x => .bool (f x)) hs hl hw ht).to (by rw [List.map_map]; rfl))).to (by rw [List.any_map]; rfl)
theorem ev_allMap {α : Type} {wi : TI} {vs : List Nat} {i : Nat} (enc : α → PyData) (xs : List α) (f : α → Bool) (hs : EvS c K wi σ G (is (xs.map enc))) (hl : xs.length ≤ 100000) (hw : ∀ v, wipe ((wipe σ vs).set i (some v)) vs = wipe σ vs)
    (ht : ∀ x G1 v, x ∈ xs → Same G G1 → Dp K G1 v (enc x) → Ev c K te ((wipe σ vs).set i (some v)) G1 (is (.bool (f x)))) :
    Ev c K (tCB (rAll K) (tCons (tLc wi (gName i) tYes te vs) tNil)) σ G (is (.bool (xs.all f))) :=
  (ev_all (bs := xs.map f) ((ev_map enc xs (fun x => .bool (f x)) hs hl hw ht).to (by rw [List.map_map]; rfl))).to (by rw [List.all_map]; rfl)
end
end Mk
/-! ## MkRul0 -/
set_option autoImplicit true
set_option Elab.async false
set_option linter.all false
set_option maxRecDepth 100000
set_option maxHeartbeats 4000000
/-! Rules whose meaning names the record X.K, with that record told apart: the first ones. -/
namespace Mk
open PySem PySem.Spec PyProof.Rows L2
section
variable {X : Cx} {K : PySem.W.Frag} {P : Program} {w : World} {tg l e o : Expr} {es elts : List Expr} {tl te ta to : TE} {t : TA} {pos p p1 p2 p3 apos cpos : Pos} {f name : Str}
theorem k_len (hK : X.K = K) : CallR X (.builtin "len") (fun xs H Q => ∃ p ys, xs = [.ref p] ∧ (SqL K H p ys ∨ SqT K H p ys) ∧ Q (.int ys.length) H) := by subst hK; exact call_len_seq
theorem k_any (hK : X.K = K) (hc : X.calm = true) : CallR X (.builtin "any") (rAny K) := by subst hK; exact cr_any hc
theorem k_all (hK : X.K = K) (hc : X.calm = true) : CallR X (.builtin "all") (rAll K) := by subst hK; exact cr_all hc
theorem k_tuple (hK : X.K = K) : CallR X (.type "tuple") (fun xs H Q => ∃ p ys, xs = [.ref p] ∧ ((SqL K H p ys ∧ ∀ l, H l = none → Q (.ref l) (upd H l (.tup ys))) ∨ (SqT K H p ys ∧ Q (.ref p) H))) := by subst hK; exact call_tuple_of
theorem k_list (hK : X.K = K) : CallR X (.type "list") (fun xs H Q => ∃ p ys, xs = [.ref p] ∧ (SqL K H p ys ∨ SqT K H p ys) ∧ ∀ l, H l = none → Q (.ref l) (upd H l (.lst ys))) := by subst hK; exact call_list_of
theorem k_isi (hK : X.K = K) : CallR X (.builtin "isinstance") (rIsi K) := by subst hK; exact call_isi
theorem k_isiT (hK : X.K = K) : CallR X (.builtin "isinstance") (rIsiT K) := by subst hK; exact call_isiT
theorem k_ixT (hK : X.K = K) : IxR X (rIxT K) := by subst hK; exact ix_tup
theorem k_ixL (hK : X.K = K) : IxR X (rIxL K) := by subst hK; exact ix_list
theorem k_ixS (hK : X.K = K) : IxR X (rIx K) := by subst hK; exact ix_seq
theorem k_pi_sq (hK : X.K = K) (hl : PE X l tl) : PI X tg l (iSq K tl) := by subst hK; exact pi_sq hl
theorem k_pg_tup {k n : Nat} {u : TGs} (hK : X.K = K) (hc : X.calm = true) (h : PGs X es u) (hn : (assignEach es X.env).length = n := by rfl) (hst : (assignEach es X.env).findIdx? (·.1) = none := by rfl) : PG X (.Tuple es k pos) (gTup K n u) := by subst hK; exact pg_tup hc h hn hst
end
end Mk
/-! ## MkW1 -/
set_option autoImplicit true
set_option Elab.async false
set_option linter.all false
set_option maxRecDepth 100000
set_option maxHeartbeats 4000000
namespace Mk
open PySem PySem.Spec PyProof.Rows L2 MkM
/-! ### words as data -/
abbrev Wd := List Str
def wd (l : Wd) : PyData := .tuple (l.map .str)
def bsD (t : Bool) (b : List Wd) : PyData := sqD t (b.map wd)
section
variable {c : Ctx} {K : PySem.W.Frag} {σ : St} {G G' H : Hp} {te ta tb tl : TE} {tt tu : TT} {φ ψ χ : PyData → Prop} {d e : PyData} {ds es : List PyData} {v : V} {D : Ends} {tz : TS}
theorem dp_strs (h : Dp K G v (.str x)) : v = .str x := dp_str h
theorem q_set {i : Nat} (h : tz D (σ.set i (some v)) H) : tSeq (tAsg (tC v) (gName i)) tz D σ H := h
theorem q_for {α : Type} {wi : TI} {g : TG} {tb : TS} (enc : α → PyData) (Φ : List α → Prop) (h : EvS c K wi σ G (fun ds => ∃ xs : List α, ds = xs.map enc ∧ Φ xs)) (s : Same G H) (j : c.J H)
    (W : List α → Nat → St → Hp → Hp → Prop) (h0 : ∀ xs G1 H1, Φ xs → Grow c.B G H G1 H1 → c.J H1 → W xs 0 σ G1 H1)
    (hW : ∀ xs i σ' G' H', W xs i σ' G' H' → Same G' H')
    (hs : ∀ xs G0, Φ xs → Same G G0 → ∀ i x σ' G' H', xs[i]? = some x → Same G0 G' → W xs i σ' G' H' → ∀ v G1 H1, Grow B0 G' H' G1 H1 → Dp K G1 v (enc x) →
      ∃ σ2, TgOk g σ' G1 v σ2 ∧ tb { D with nx := fun σ'' H'' => ∃ G'', Same G0 G'' ∧ W xs (i + 1) σ'' G'' H'', ct := fun σ'' H'' => ∃ G'', Same G0 G'' ∧ W xs (i + 1) σ'' G'' H'', bk := tz D } σ2 H1)
    (hd : ∀ xs, Φ xs → ∀ σ' G' H', Same G G' → W xs xs.length σ' G' H' → tz D σ' H') : tSeq (tFor wi g tb) tz D σ H := st_for (D := { D with nx := tz D }) enc Φ h s j W h0 hW hs hd
/-- a source all told -/
theorem es_is {α : Type} {wi : TI} {enc : α → PyData} {xs : List α} (h : EvS c K wi σ G (is (xs.map enc))) : EvS c K wi σ G (fun ds => ∃ ys : List α, ds = ys.map enc ∧ ys = xs) := fun G0 H a b j R r => h G0 H a b j R fun J ds G1 H1 g1 j1 S e => r J ds G1 H1 g1 j1 S ⟨xs, e, rfl⟩
theorem st_forI {α : Type} {wi : TI} {g : TG} {tb : TS} (enc : α → PyData) (xs : List α) (h : EvS c K wi σ G (is (xs.map enc))) (s : Same G H) (j : c.J H)
    (W : Nat → St → Hp → Hp → Prop) (h0 : ∀ G1 H1, Grow c.B G H G1 H1 → c.J H1 → W 0 σ G1 H1)
    (hW : ∀ i σ' G' H', W i σ' G' H' → Same G' H')
    (hs : ∀ G0, Same G G0 → ∀ i x σ' G' H', xs[i]? = some x → Same G0 G' → W i σ' G' H' → ∀ v G1 H1, Grow B0 G' H' G1 H1 → Dp K G1 v (enc x) →
      ∃ σ2, TgOk g σ' G1 v σ2 ∧ tb { D with nx := fun σ'' H'' => ∃ G'', Same G0 G'' ∧ W (i + 1) σ'' G'' H'', ct := fun σ'' H'' => ∃ G'', Same G0 G'' ∧ W (i + 1) σ'' G'' H'', bk := D.nx } σ2 H1)
    (hd : ∀ σ' G' H', Same G G' → W xs.length σ' G' H' → D.nx σ' H') : tFor wi g tb D σ H :=
  st_for enc (is xs) (es_is h) s j (fun ys i σ' G' H' => ys = xs ∧ W i σ' G' H') (fun ys G1 H1 e g1 j1 => ⟨e, h0 G1 H1 g1 j1⟩) (fun ys i σ' G' H' q => hW i σ' G' H' q.2)
    (fun ys G0 e sg i x σ' G' H' hx s0 q v G1 H1 g1 dv => by
      have e' : ys = xs := e
      rw [e'] at hx ⊢
      obtain ⟨σ2, t1, t2⟩ := hs G0 sg i x σ' G' H' hx s0 q.2 v G1 H1 g1 dv
      refine ⟨σ2, t1, ?_⟩
      have en : (fun σ'' H'' => ∃ G'', Same G0 G'' ∧ xs = xs ∧ W (i + 1) σ'' G'' H'') = fun σ'' H'' => ∃ G'', Same G0 G'' ∧ W (i + 1) σ'' G'' H'' := by
        funext σ'' H''
        simp
      rw [en]
      exact t2) (fun ys e σ' G' H' sg q => by
      have e' : ys = xs := e
      rw [e'] at q
      exact hd σ' G' H' sg q.2)
theorem q_forI {α : Type} {wi : TI} {g : TG} {tb : TS} (enc : α → PyData) (xs : List α) (h : EvS c K wi σ G (is (xs.map enc))) (s : Same G H) (j : c.J H)
    (W : Nat → St → Hp → Hp → Prop) (h0 : ∀ G1 H1, Grow c.B G H G1 H1 → c.J H1 → W 0 σ G1 H1)
    (hW : ∀ i σ' G' H', W i σ' G' H' → Same G' H')
    (hs : ∀ G0, Same G G0 → ∀ i x σ' G' H', xs[i]? = some x → Same G0 G' → W i σ' G' H' → ∀ v G1 H1, Grow B0 G' H' G1 H1 → Dp K G1 v (enc x) →
      ∃ σ2, TgOk g σ' G1 v σ2 ∧ tb { D with nx := fun σ'' H'' => ∃ G'', Same G0 G'' ∧ W (i + 1) σ'' G'' H'', ct := fun σ'' H'' => ∃ G'', Same G0 G'' ∧ W (i + 1) σ'' G'' H'', bk := tz D } σ2 H1)
    (hd : ∀ σ' G' H', Same G G' → W xs.length σ' G' H' → tz D σ' H') : tSeq (tFor wi g tb) tz D σ H := st_forI (D := { D with nx := tz D }) enc xs h s j W h0 hW hs hd
end
section
variable {P : Program} {w : World} {K : PySem.W.Frag} {mg : Str → Option Value} {base : Heap}
/-! ### begun -/
-- slots: 0 word, 1 log, 2 many, 3 name
abbrev N_begun : List Str := ["word", "log", "many", "name"]
theorem sc_begun : FnScope N_begun ["word", "log"] (defScope st_begun) := ⟨rfl, rfl, rfl, by decide +kernel, rfl, by decide +kernel, by decide +kernel⟩
theorem bd_begun : BindOk "begun" "begun" st_begun ["word", "log"] := fun _ _ _ _ _ _ us hl => match us, hl with | [_, _], _ => rfl
abbrev spBegun (K : PySem.W.Frag) : Sp := spP K (fun i : Wd × Wd => [wd i.1, wd i.2]) (fun _ => True) (fun i => .int (begun i.1 i.2 : Nat))
theorem ok_begun (T : Txt K mg) : Callee P w K mg base 1 "begun" ["word", "log"] (spBegun K) := by
  refine callee_of T.f_begun T.g_begun sc_begun bd_begun (spP_len fun _ => rfl) fun cdv A outer s H vs Q E hr h => ?_
  obtain ⟨⟨wo, lg⟩, G, hs, ha, _, k⟩ := h
  obtain ⟨v1, v2, rfl, d1, d2⟩ := dpa_two ha
  refine ⟨_, (pss_cons (ps_set (i := 2) sc_begun.nd rfl (by first | exact Or.inl rfl | exact Or.inr rfl) pe_int)
        (pss_cons (ps_for PassesOwn.never rfl (k_pi_sq (K := K) rfl (pv 1)) (pg_name (i := 3) sc_begun.nd rfl (by first | exact Or.inl rfl | exact Or.inr rfl)) (pss_one (ps_if (PW.pt (pw_and (pt_cmpR op_lt (pv 2) (pe_callB (id := "len") (k_len (K := K) rfl) (by rfl) T.b_len (by decide +kernel) (pa_cons (pv 0) pa_nil)) (nomark _)) (pw_and1 (pt_cmpR (op_eq) (pe_ix (k_ixT (K := K) rfl) (pv 0) (pv 2) (fun _ _ => rfl)) (pv 3) (nomark _))))) (pss_one (ps_aug (i := 2) sc_begun.nd rfl (by first | exact Or.inl rfl | exact Or.inr rfl) pe_int ip_add)) pss_nil)))
        (pss_one (ps_ret (pv 2))))), ?_⟩
  refine q_set ?_
  refine q_forI (c := c0) (G := G) PyData.str lg (es_T (ev_var rfl d2)) hs trivial
    (fun i σ' G' H' => Grow B0 G H G' H' ∧ ∃ y3, σ' = [some v1, some v2, some (.int (begunFrom wo 0 (lg.take i) : Nat)), y3])
    (fun G1 H1 g _ => ⟨g, none, rfl⟩) (fun i σ' G' H' h => h.1.s) ?_ ?_
  · rintro G0 hG i x σ' G' H' hx s0 ⟨g, y3, rfl⟩ v G1 H1 g1 dv
    refine ⟨_, tg_name, ?_⟩
    have d1' : Dp K G1 v1 (wd wo) := dp_mono (g.trans g1).g _ _ d1
    have hv := dp_str dv
    subst hv
    generalize hm : begunFrom wo 0 (lg.take i) = m
    have hnext : begunFrom wo 0 (lg.take (i + 1)) = if wo[m]? = some x then m + 1 else m := by
      rw [take_succ' hx]
      unfold begunFrom at hm ⊢
      rw [List.foldl_append, hm]
      rfl
    refine st_if (c := c0) (G := G1) (φ := is (decide (wo[m]? = some x))) ?_ g1.s trivial fun b G2 H2 g2 _ hb => ?_
    rotate_left
    · subst hb
      by_cases e : wo[m]? = some x
      · rw [if_pos (decide_eq_true e)]
        refine ⟨_, rfl, (m : Int), 1, rfl, rfl, G2, (s0.trans g1.g).trans g2.g, (g.trans g1).trans g2, some (.str x), ?_⟩
        rw [hnext, if_pos e]
        rfl
      · rw [if_neg (by rw [decide_eq_false e]; exact Bool.false_ne_true)]
        refine ⟨G2, (s0.trans g1.g).trans g2.g, (g.trans g1).trans g2, some (.str x), ?_⟩
        rw [hnext, if_neg e]
        rfl
    · refine (et_and (a := decide (m < wo.length)) (b := decide (wo[m]? = some x)) (et_test ((ev_I0 (ev_var rfl (.int _)) (ev_lenT (ev_var rfl d1')) (fun _ => .bl _)).to ?_)) fun hlt => ?_).to ?_
      · rw [List.length_map]
        exact congrArg PyData.bool (decide_eq_decide.mpr (by omega))
      · have hlt' : m < wo.length := of_decide_eq_true hlt
        refine et_test ((ev_eqS (x := .str wo[m]) (y := .str x) (ev_ixT (d := .str wo[m]) (ev_var rfl d1') (ev_var rfl (.int _)) ?_) (ev_var rfl dv) (fun G v h => dp_str h) (fun G v h => dp_str h) rfl).to ?_)
        · rw [List.getElem?_map, List.getElem?_eq_getElem hlt']
          rfl
        · rw [List.getElem?_eq_getElem hlt']
          exact congrArg PyData.bool (decide_eq_decide.mpr ⟨fun e => by injection e with e; rw [e], fun e => by rw [Option.some.inj e]⟩)
      · by_cases e : wo[m]? = some x
        · have : m < wo.length := (List.getElem?_eq_some_iff.mp e).1
          rw [decide_eq_true e, decide_eq_true this]
          rfl
        · rw [decide_eq_false e, Bool.and_false]
  · rintro σ' G' H' sg ⟨g, y3, rfl⟩
    rw [List.take_length]
    exact ⟨_, rfl, k _ G' H' g (.int _)⟩
/-! ### is_part -/
-- slots: 0 word, 1 log
abbrev N_is_part : List Str := ["word", "log"]
theorem sc_is_part : FnScope N_is_part ["word", "log"] (defScope st_is_part) := ⟨rfl, rfl, rfl, by decide +kernel, rfl, by decide +kernel, by decide +kernel⟩
theorem bd_is_part : BindOk "is_part" "is_part" st_is_part ["word", "log"] := fun _ _ _ _ _ _ us hl => match us, hl with | [_, _], _ => rfl
abbrev spIsPart (K : PySem.W.Frag) : Sp := spP K (fun i : Wd × Wd => [wd i.1, wd i.2]) (fun _ => True) (fun i => .bool (isPart i.1 i.2))
theorem ok_is_part (T : Txt K mg) : Callee P w K mg base 2 "is_part" ["word", "log"] (spIsPart K) := by
  have C_begun : Callee P w K mg base 1 "begun" ["word", "log"] (spBegun K) := ok_begun T
  refine callee_of T.f_is_part T.g_is_part sc_is_part bd_is_part (spP_len fun _ => rfl) fun cdv A outer s H vs Q E hr h => ?_
  obtain ⟨⟨wo, lg⟩, G, hs, ha, _, k⟩ := h
  obtain ⟨v1, v2, rfl, d1, d2⟩ := dpa_two ha
  refine ⟨_, (pss_one (ps_ret (pe_cmpR (op_eq) (pe_callC C_begun hr (by omega) rfl (pa_cons (pv 0) (pa_cons (pv 1) pa_nil))) (pe_callB (id := "len") (k_len (K := K) rfl) (by rfl) T.b_len (by decide +kernel) (pa_cons (pv 0) pa_nil)) (nomark _)))), ?_⟩
  refine st_ret (c := c0) (K := K) (G := G) (φ := is (.bool (isPart wo lg))) ((ev_eqS (ev_call (wo, lg) (ea_cons (ev_var rfl d1) (ea_cons (ev_var rfl d2) ea_nil)) trivial) (ev_lenT (ev_var rfl d1)) (fun G v h => dp_int h) (fun G v h => dp_int h) rfl).to ?_) hs trivial fun v d G1 H1 g1 _ dv e => ?_
  · unfold isPart
    rw [List.length_map]
    exact congrArg PyData.bool (decide_eq_decide.mpr ⟨fun e => by
      injection e with e
      have e' : ((begun wo lg : Nat) : Int) = (wo.length : Nat) := e
      omega, fun e => by
      show V.int ((begun wo lg : Nat) : Int) = V.int _
      rw [e]⟩)
  · subst e
    exact k v G1 H1 g1 dv
end
end Mk
/-! ## MkW2 -/
set_option autoImplicit true
set_option Elab.async false
set_option linter.all false
set_option maxRecDepth 100000
set_option maxHeartbeats 4000000
namespace Mk
open PySem PySem.Spec PyProof.Rows L2 MkM
/-! ### isinstance -/
def tyN : PyData → String
  | .none => "NoneType"
  | .bool _ => "bool"
  | .int _ => "int"
  | .str _ => "str"
  | .list _ => "list"
  | .tuple _ => "tuple"
  | .dict _ => "dict"
theorem kit_sl : kitB "str" "list" = some false := by decide +kernel
theorem kit_st : kitB "str" "tuple" = some false := by decide +kernel
theorem kit_ll : kitB "list" "list" = some true := by decide +kernel
theorem kit_lt : kitB "list" "tuple" = some false := by decide +kernel
theorem kit_tl : kitB "tuple" "list" = some false := by decide +kernel
theorem kit_tt : kitB "tuple" "tuple" = some true := by decide +kernel
section
variable {c : Ctx} {K : PySem.W.Frag} {σ : St} {G G' H : Hp} {te ta tb tl : TE} {tt tu : TT} {φ ψ χ : PyData → Prop} {d e : PyData} {ds es : List PyData} {v : V}
theorem dp_ty (h : Dp K H v d) : TyX K H v (.type (tyN d)) := by
  cases h with
  | non => exact .base .non
  | bl b => exact .base (.bl b)
  | int i => exact .base (.int i)
  | str x => exact .base (.str x)
  | lst hs _ =>
    rcases hs with (h | ⟨o, h⟩) | ⟨o, its, n, hk, hc, _⟩
    · exact .base (.lst h)
    · exact .base (.frz h)
    · exact .kList hk hc
  | tup hs _ =>
    rcases hs with (h | ⟨o, h⟩) | ⟨o, its, n, hk, hc, _⟩
    · exact .base (.tup h)
    · exact .fTuple h
    · exact .kTuple hk hc
theorem ev_isi {n : String} {r : Bool} (h : Ev c K te σ G (is d)) (hk : kitB (tyN d) n = some r) : Ev c K (tCB (rIsi K) (tCons te (tCons (tC (.ty n)) tNil))) σ G (is (.bool r)) :=
  fun G0 H x y j Q q => h G0 H x y j _ fun v d' G1 H1 g1 j1 d1 p1 => by
    subst p1
    exact ⟨v, .ty n, _, _, r, rfl, .ty n, dp_ty (dp_mono g1.s _ _ d1), kit_ty hk, q _ _ G1 H1 g1 j1 (.bl _) rfl⟩
theorem ev_isi2 {a b : String} {r1 r2 : Bool} (h : Ev c K te σ G (is d)) (h1 : kitB (tyN d) a = some r1) (h2 : kitB (tyN d) b = some r2) :
    Ev c K (tCB (rIsiT K) (tCons te (tCons (tTup (tCons (tC (.ty a)) (tCons (tC (.ty b)) tNil))) tNil))) σ G (is (.bool (r1 || r2))) :=
  fun G0 H x y j Q q => h G0 H x y j _ fun v d' G1 H1 g1 j1 d1 p1 => by
    subst p1
    refine ⟨by show 2 ≤ sizeLine; decide, fun tp htp => ⟨v, tp, [.ty a, .ty b], _, [.type a, .type b], r1 || r2, rfl, upd_same, .cons (.ty a) (.cons (.ty b) .nil), dp_ty (dp_mono (same_new htp) _ _ (dp_mono g1.s _ _ d1)), ?_, ?_⟩⟩
    · refine kitAny_cons (kit_ty h1) (fun e => ?_) (fun e => by rw [e]; rfl)
      rw [e, Bool.false_or]
      exact kitAny_cons (kit_ty h2) (fun e => by rw [e]; rfl) (fun e => by rw [e])
    · exact q _ _ G1 _ (g1.trans ((Grow.refl g1.s).mut (.inl htp) (g1.s.free htp))) (c.new j1 htp) (.bl _) rfl
theorem ev_isSq {t : Bool} (h : Ev c K te σ G (is (sqD t ds))) : Ev c K (tCB (rIsiT K) (tCons te (tCons (tTup (tCons (tC (.ty "list")) (tCons (tC (.ty "tuple")) tNil))) tNil))) σ G (is (.bool true)) := by
  cases t with
  | true => exact ev_isi2 (d := .tuple ds) (r1 := false) (r2 := true) h kit_tl kit_tt
  | false => exact ev_isi2 (d := .list ds) (r1 := true) (r2 := false) h kit_ll kit_lt
theorem ev_callL {sp : Sp} {E : XK} {t : TA} {as : List Ag} (h : EA c K t σ G as)
    (hr : ∀ G1 H1 vs, Same G G1 → Same G1 H1 → c.J H1 → AgOk K as G1 vs → ∀ Q : VK, (∀ z f G2 H2, Grow c.B G1 H1 G2 H2 → c.J H2 → Dp K G2 z f → χ f → Q z H2) → sp vs H1 Q E) : Ev c K (tCall sp [] E t) σ G χ := ev_callX h hr
end
section
variable {P : Program} {w : World} {K : PySem.W.Frag} {mg : Str → Option Value} {base : Heap}
/-! ### tupled: of a text; of a list or tuple of what it is known of -/
-- slots: 0 value, 1 part
abbrev N_tupled : List Str := ["value", "part"]
theorem sc_tupled : FnScope N_tupled ["value"] (defScope st_tupled) := ⟨rfl, rfl, rfl, by decide +kernel, rfl, by decide +kernel, by decide +kernel⟩
theorem bd_tupled : BindOk "tupled" "tupled" st_tupled ["value"] := fun _ _ _ _ _ _ us hl => match us, hl with | [_], _ => rfl
abbrev spTup0 (K : PySem.W.Frag) : Sp := spP K (fun x : Str => [.str x]) (fun _ => True) (fun x => .str x)
abbrev spTupS (K : PySem.W.Frag) {ι : Type} (enc : ι → PyData) (pre : ι → Prop) (res : ι → PyData) : Sp := spP K (fun i : Bool × List ι => [sqD i.1 (i.2.map enc)]) (fun i => i.2.length ≤ 100000 ∧ ∀ x ∈ i.2, pre x) (fun i => .tuple (i.2.map res))
abbrev spTup1 (K : PySem.W.Frag) {ι : Type} (enc : ι → PyData) (pre : ι → Prop) (res : ι → PyData) : Sp := spP K (fun i : ι => [enc i]) pre res
theorem ok_tup0 (T : Txt K mg) : Callee P w K mg base 1 "tupled" ["value"] (spTup0 K) := by
  have C_tupled : Callee P w K mg base 0 "tupled" ["value"] (fun _ _ _ _ => False) := by
    obtain ⟨fd, F⟩ := T.f_tupled
    exact ⟨_, fd, ⟨fun _ _ _ _ h => h.elim, fun _ _ _ _ _ _ _ _ _ _ _ _ _ h => h.elim⟩, T.g_tupled, F.kp, F.bindsN bd_tupled⟩
  refine callee_of T.f_tupled T.g_tupled sc_tupled bd_tupled (spP_len fun _ => rfl) fun cdv A outer s H vs Q E hr h => ?_
  obtain ⟨x, G, hs, ha, _, k⟩ := h
  obtain ⟨v1, rfl, d1⟩ := dpa_one ha
  refine ⟨_, (pss_one (ps_ret (pe_ifExp (pt_val (pe_callB (id := "isinstance") (k_isiT (K := K) rfl) (by rfl) T.b_isinstance (by decide +kernel) (pa_cons (pv 0) (pa_cons (pe_tup (pa_cons (pe_bltn (v := .ty "list") rfl T.b_list (by decide +kernel) rfl) (pa_cons (pe_bltn (v := .ty "tuple") rfl T.b_tuple (by decide +kernel) rfl) pa_nil))) pa_nil)))) (pe_callTy (T := "tuple") (k_tuple (K := K) rfl) (by rfl) T.b_tuple (by decide +kernel) (pa_cons (pe_lc (own := [("part", 1)]) rfl sc_tupled.nd (k_pi_sq (K := K) rfl (pv 0)) (blkOk_by (by kernel_rfl)) (fun _ _ _ _ _ => (pg_name (i := 1) sc_tupled.nd rfl (by first | exact Or.inl rfl | exact Or.inr rfl))) (fun _ _ _ _ _ => pts_nil) (fun _ _ _ _ _ => (pe_callC C_tupled hr (by omega) rfl (pa_cons (pv 1) pa_nil)))) pa_nil)) (pv 0)))), ?_⟩
  refine st_ret (c := c0) (K := K) (G := G) (φ := is (.str x)) (ev_if (b := false) (et_B (ev_isi2 (r1 := false) (r2 := false) (ev_var rfl d1) kit_sl kit_st)) (fun e => nomatch e) fun _ => ev_var rfl d1) hs trivial fun v d G1 H1 g1 _ dv e => ?_
  subst e
  exact k v G1 H1 g1 dv
theorem ok_tupS (T : Txt K mg) {ι : Type} {enc res : ι → PyData} {pre : ι → Prop} {n : Nat} (C : Callee P w K mg base n "tupled" ["value"] (spTup1 K enc pre res)) : Callee P w K mg base (n + 1) "tupled" ["value"] (spTupS K enc pre res) := by
  have C_tupled := C
  refine callee_of T.f_tupled T.g_tupled sc_tupled bd_tupled (spP_len fun _ => rfl) fun cdv A outer s H vs Q E hr h => ?_
  obtain ⟨⟨t, xs⟩, G, hs, ha, ⟨hl, hp⟩, k⟩ := h
  obtain ⟨v1, rfl, d1⟩ := dpa_one ha
  refine ⟨_, (pss_one (ps_ret (pe_ifExp (pt_val (pe_callB (id := "isinstance") (k_isiT (K := K) rfl) (by rfl) T.b_isinstance (by decide +kernel) (pa_cons (pv 0) (pa_cons (pe_tup (pa_cons (pe_bltn (v := .ty "list") rfl T.b_list (by decide +kernel) rfl) (pa_cons (pe_bltn (v := .ty "tuple") rfl T.b_tuple (by decide +kernel) rfl) pa_nil))) pa_nil)))) (pe_callTy (T := "tuple") (k_tuple (K := K) rfl) (by rfl) T.b_tuple (by decide +kernel) (pa_cons (pe_lc (own := [("part", 1)]) rfl sc_tupled.nd (k_pi_sq (K := K) rfl (pv 0)) (blkOk_by (by kernel_rfl)) (fun _ _ _ _ _ => (pg_name (i := 1) sc_tupled.nd rfl (by first | exact Or.inl rfl | exact Or.inr rfl))) (fun _ _ _ _ _ => pts_nil) (fun _ _ _ _ _ => (pe_callC C_tupled hr (by omega) rfl (pa_cons (pv 1) pa_nil)))) pa_nil)) (pv 0)))), ?_⟩
  refine st_ret (c := c0) (K := K) (G := G) (φ := is (.tuple (xs.map res))) (ev_if (b := true) (et_B (ev_isSq (ev_var rfl d1))) (fun _ => ?_) fun e => nomatch e) hs trivial fun v d G1 H1 g1 _ dv e => ?_
  · refine ev_tupleL ((ev_lc enc xs (fun _ => true) res (es_sq (ev_var rfl d1)) hl fun x G1 v hx s1 dv => ?_).to ?_)
    · exact lct_name rfl et_yes fun _ => ev_call x (ea_cons (ev_var rfl dv) ea_nil) (hp x hx)
    · rw [List.filter_eq_self.mpr fun _ _ => rfl]
  · subst e
    exact k v G1 H1 g1 dv
theorem Callee.imp {k : Nat} {x : Str} {ps : List Str} {sp sp' : Sp} (C : Callee P w K mg base k x ps sp) (h : ∀ vs H Q E, sp' vs H Q E → sp vs H Q E) : Callee P w K mg base k x ps sp' := by
  obtain ⟨f, fd, F, a, b, c⟩ := C.ex
  exact ⟨f, fd, F.imp h, a, b, c⟩
theorem Callee.up {k j : Nat} {x : Str} {ps : List Str} {sp : Sp} (C : Callee P w K mg base k x ps sp) (h : k ≤ j) : Callee P w K mg base j x ps sp := by
  obtain ⟨f, fd, F, a, b, c⟩ := C.ex
  exact ⟨f, fd, F.mono h, a, b, c⟩
/-- sizes that are within the line -/
abbrev Lw (l : Wd) : Prop := l.length ≤ 100000
abbrev LB (b : List Wd) : Prop := b.length ≤ 100000 ∧ ∀ l ∈ b, Lw l
/-- of a word: itself -/
theorem ok_tupW (T : Txt K mg) : Callee P w K mg base 2 "tupled" ["value"] (spTup1 K wd Lw wd) :=
  (ok_tupS T (ok_tup0 T)).imp fun vs H Q E ⟨l, G, s, a, p, k⟩ => ⟨(true, l), G, s, a, ⟨p, fun _ _ => trivial⟩, k⟩
/-- of a tuple or list of words: the tuple of them -/
abbrev spTupB (K : PySem.W.Frag) : Sp := spP K (fun i : Bool × List Wd => [bsD i.1 i.2]) (fun i => LB i.2) (fun i => bsD true i.2)
theorem ok_tupB (T : Txt K mg) : Callee P w K mg base 3 "tupled" ["value"] (spTupB K) := ok_tupS T (ok_tupW T)
end
end Mk
/-! ## MkSet -/
set_option autoImplicit true
set_option Elab.async false
set_option linter.all false
set_option maxRecDepth 100000
set_option maxHeartbeats 4000000
/-! Sets whose members are keys of any depth (NestedKey): the set made of a list, and what is collected of it. The tables' laws are TupSets's own; here the questions asked of the members. -/
namespace MkS
open PySem PySem.Spec PyProof.Rows L2
/-- the tuple at b is the key k -/
abbrev IsK (h : Heap) (k : NestedKey) (b : Addr) : Prop := NestedIs h k (.ref b) ∧ k.depth ≤ 8
abbrev kh (w : World) (k : NestedKey) : Int := k.hash w
section
variable {P : Program} {w : World} {A : Around} {E : Value → Shared → Prop} {s : Shared}
theorem isK_keep {h h' : Heap} {k : NestedKey} {b : Addr} (x : IsK h k b) (hk : ∀ c o, h.get? c = some o → h'.get? c = some o) : IsK h' k b :=
  ⟨NestedIs.at (fun a o _ _ e _ => hk a o e) k _ x.1, x.2⟩
theorem isK_same {h h' : Heap} {k : NestedKey} {a b : Addr} {o : Obj} {es : Array (Int × Value)} {ep : Nat} {t : SetTable} (x : IsK h k b) (ho : h.get? a = some o) (hd : o.data = .set es ep t) (hs : Heap.SameBut a h h') : IsK h' k b :=
  ⟨NestedIs.at (fun c u vs n e q => by
    have ne : c ≠ a := by
      rintro rfl
      rw [ho] at e
      cases e
      rw [hd] at q
      cases q
    exact (hs.2 c ne).trans e) k _ x.1, x.2⟩
/-! ### what the search asks of a member -/
def NoCls (P : Program) (w : World) (n : Nat) (s : Shared) (v : Value) : Prop := ∀ (A : Around) (E : Value → Shared → Prop) (Q : Bool → Shared → Prop), Q false s → wpAny (model P w) A (ofAClassStatement n v) Q E s
def HashAny (P : Program) (w : World) (n : Nat) (s : Shared) (v : Value) : Prop := ∀ (A : Around) (E : Value → Shared → Prop) (Q : Bool → Shared → Prop), (∀ b, Q b s) → wpAny (model P w) A (hashByValue n v) Q E s
theorem noCls_tup {n : Nat} {a : Addr} {o : Obj} {vs : Array Value} {m : Nat} (ho : s.heap.get? a = some o) (hc : o.cls = .type "tuple") (hd : o.data = .seq vs m) (hq : ∀ v ∈ vs.toList, NoCls P w n s v) : NoCls P w (n + 1) s (.ref a) := fun A E Q h => by
  unfold ofAClassStatement
  refine wpAny_bind (wpAny_typeOf ⟨o, ho, hc⟩ ?_)
  dsimp only
  simp only [show (("tuple" : String) == "tuple") = true by decide, if_true, Bool.not_true, Bool.false_eq_true, if_false]
  try refine wpAny_bind (wpAny_pure ?_)
  try simp only [Bool.not_true, Bool.false_eq_true, if_false]
  refine wpAny_bind (wpAny_seqItems ho hd ?_)
  dsimp only
  refine wpAny_bind ?_
  show wpAny _ _ (forIn vs _ _) _ _ s
  rw [← Array.forIn_toList]
  refine wpAny_forIn_list _ (fun l r z => r.1 = none ∧ z = s ∧ ∀ v ∈ l, NoCls P w n s v) _ ?_ ?_ _ _ ⟨rfl, rfl, hq⟩
  · rintro v l r z ⟨hr, rfl, hl⟩
    refine wpAny_bind (hl v List.mem_cons_self _ _ _ ?_)
    simp only [Bool.false_eq_true, if_false]
    exact wpAny_pure ⟨rfl, rfl, fun u hu => hl u (List.mem_cons_of_mem _ hu)⟩
  · rintro ⟨r1, r2⟩ z ⟨hr, rfl, _⟩
    simp only at hr
    subst hr
    exact wpAny_pure h
theorem hashAny_tup {n : Nat} {a : Addr} {o : Obj} {vs : Array Value} {m : Nat} (ho : s.heap.get? a = some o) (hc : o.cls = .type "tuple") (hd : o.data = .seq vs m) (hq : ∀ v ∈ vs.toList, HashAny P w n s v) : HashAny P w (n + 1) s (.ref a) := fun A E Q h => by
  unfold hashByValue
  refine wpAny_bind (wpAny_specialOf (T := "tuple") ⟨o, ho, hc⟩ F.slot_tuple_hash.lookup ?_)
  show wpAny _ _ (seqItems? (.ref a) >>= _) _ _ s
  refine wpAny_bind (wpAny_seqItems ho hd ?_)
  refine wpAny_bind ?_
  show wpAny _ _ (forIn vs _ _) _ _ s
  rw [← Array.forIn_toList]
  refine wpAny_forIn_list _ (fun l r z => r.1 = none ∧ z = s ∧ ∀ v ∈ l, HashAny P w n s v) _ ?_ ?_ _ _ ⟨rfl, rfl, hq⟩
  · rintro v l r z ⟨hr, rfl, hl⟩
    refine wpAny_bind (hl v List.mem_cons_self _ _ _ fun b => ?_)
    cases b with
    | true =>
      simp only [Bool.not_true, Bool.false_eq_true, if_false]
      exact wpAny_pure ⟨rfl, rfl, fun u hu => hl u (List.mem_cons_of_mem _ hu)⟩
    | false =>
      simp only [Bool.not_false, if_true]
      exact wpAny_pure (wpAny_pure (h false))
  · rintro ⟨r1, r2⟩ z ⟨hr, rfl, _⟩
    simp only at hr
    subst hr
    exact wpAny_pure (h true)
mutual
theorem noCls_key : ∀ (k : NestedKey) (v : Value) (n : Nat), NestedIs s.heap k v → k.depth ≤ n → NoCls P w n s v
  | .none, _, n, x, _ => by cases x; intro A E Q h; cases n <;> exact wpAny_pure h
  | .num i, _, n, x, _ => by cases x <;> (intro A E Q h; cases n <;> exact wpAny_pure h)
  | .text y, _, n, x, _ => by cases x; intro A E Q h; cases n <;> exact wpAny_pure h
  | .tup ks, _, n, x, hn => by
    cases x with
    | tup hg hc hd hk =>
      simp only [NestedKey.depth] at hn
      cases n with
      | zero => omega
      | succ n => exact noCls_tup hg hc hd (noCls_keys ks _ n hk (by omega))
theorem noCls_keys : ∀ (ks : List NestedKey) (vs : List Value) (n : Nat), NestedAll s.heap ks vs → NestedKey.depthAll ks ≤ n → ∀ v ∈ vs, NoCls P w n s v
  | [], _, n, x, _, v, hv => by cases x; cases hv
  | k :: ks, _, n, x, hn, v, hv => by
    cases x with
    | cons x1 x2 =>
      simp only [NestedKey.depthAll] at hn
      rcases List.mem_cons.mp hv with e | hv
      · rw [e]; exact noCls_key k _ n x1 (by omega)
      · exact noCls_keys ks _ n x2 (by omega) v hv
end
mutual
theorem hashAny_key : ∀ (k : NestedKey) (v : Value) (n : Nat), NestedIs s.heap k v → k.depth ≤ n → HashAny P w n s v
  | .none, _, n, x, _ => by cases x; intro A E Q h; cases n <;> exact wpAny_pure (h _)
  | .num i, _, n, x, _ => by cases x <;> (intro A E Q h; cases n <;> exact wpAny_pure (h _))
  | .text y, _, n, x, _ => by cases x; intro A E Q h; cases n <;> exact wpAny_pure (h _)
  | .tup ks, _, n, x, hn => by
    cases x with
    | tup hg hc hd hk =>
      simp only [NestedKey.depth] at hn
      cases n with
      | zero => omega
      | succ n => exact hashAny_tup hg hc hd (hashAny_keys ks _ n hk (by omega))
theorem hashAny_keys : ∀ (ks : List NestedKey) (vs : List Value) (n : Nat), NestedAll s.heap ks vs → NestedKey.depthAll ks ≤ n → ∀ v ∈ vs, HashAny P w n s v
  | [], _, n, x, _, v, hv => by cases x; cases hv
  | k :: ks, _, n, x, hn, v, hv => by
    cases x with
    | cons x1 x2 =>
      simp only [NestedKey.depthAll] at hn
      rcases List.mem_cons.mp hv with e | hv
      · rw [e]; exact hashAny_key k _ n x1 (by omega)
      · exact hashAny_keys ks _ n x2 (by omega) v hv
end
/-- a search among such members shows nothing -/
theorem seen_key {k : NestedKey} {b : Addr} {Q : Bool → Shared → Prop} (hk : IsK s.heap k b) {ys : List Value} (hy : ∀ y ∈ ys, ∃ k' c, y = Value.ref c ∧ IsK s.heap k' c) (h : Q false s) : wpAny (model P w) A (searchCouldBeSeen (.ref b) ys) Q E s := by
  unfold searchCouldBeSeen
  refine wpAny_bind ?_
  refine wpAny_forIn_list _ (fun l r z => r.1 = none ∧ z = s ∧ ∀ y ∈ l, ∃ k' c, y = Value.ref c ∧ IsK s.heap k' c) _ ?_ ?_ _ _ ⟨rfl, rfl, hy⟩
  · rintro v l r z ⟨hr, rfl, hl⟩
    obtain ⟨k', c, rfl, hc⟩ := hl v List.mem_cons_self
    have hl' : ∀ y ∈ l, ∃ k' c, y = Value.ref c ∧ IsK z.heap k' c := fun u hu => hl u (List.mem_cons_of_mem _ hu)
    dsimp only
    by_cases hv : (b == c || (carriedByValue (.ref b) && carriedByValue (.ref c))) = true
    · exact wp_if_pos hv (wpAny_pure ⟨rfl, rfl, hl'⟩)
    · refine wp_if_neg hv ?_
      refine wpAny_bind ((nestedKind P w).quiet hk ?_)
      simp only [Bool.not_true, Bool.false_eq_true, if_false]
      refine wpAny_bind ((nestedKind P w).quiet hc ?_)
      simp only [Bool.not_true, Bool.false_eq_true, if_false]
      refine wpAny_bind (noCls_key k _ 8 hk.1 hk.2 _ _ _ ?_)
      simp only [Bool.false_eq_true, if_false]
      refine wpAny_bind (noCls_key k' _ 8 hc.1 hc.2 _ _ _ ?_)
      simp only [Bool.false_eq_true, if_false]
      exact wpAny_pure ⟨rfl, rfl, hl'⟩
  · rintro ⟨r1, r2⟩ z ⟨hr, rfl, _⟩
    simp only at hr
    subst hr
    exact wpAny_pure h
/-! ### the set -/
abbrev Mem := List (Addr × NestedKey)
def rowsK (w : World) (L : Mem) : List (Int × Value) := L.map fun p => (kh w p.2, Value.ref p.1)
theorem rowsK_len (w : World) (L : Mem) : (rowsK w L).length = L.length := List.length_map ..
structure SetK (P : Program) (w : World) (h : Heap) (a : Addr) (L : Mem) (es : Array (Int × Value)) (ep : Nat) (t : SetTable) : Prop where
  ob : ∃ o, h.get? a = some o ∧ o.ExactSet ∧ o.data = .set es ep t
  rows : es.toList = rowsK w L
  tab : TabOk t (L.map fun p => kh w p.2)
  nd : (L.map (·.2)).Nodup
  key : ∀ p ∈ L, IsK h p.2 p.1
  led : w.params.followText "set-order" = true ∨ t.led = true
  room : L.length * 5 < t.mask * 3
  few : L.length < 64
variable {a : Addr} {L : Mem} {es : Array (Int × Value)} {ep : Nat} {t : SetTable}
theorem SetK.size (R : SetK P w s.heap a L es ep t) : es.size = L.length := by
  rw [← Array.length_toList, R.rows, rowsK_len]
theorem fits_of (hz : t.place.size = es.size) (hd : t.dummies = #[]) (hm : es.size ≤ t.mask) : t.fits es.size = true := by
  unfold SetTable.fits SetTable.fill
  rw [hd, Bool.and_eq_true, beq_iff_eq, decide_eq_true_eq]
  exact ⟨hz, by show t.place.size + 0 ≤ t.mask; omega⟩
theorem SetK.fits (R : SetK P w s.heap a L es ep t) : t.fits es.size = true := by
  have h1 := R.tab.sz
  rw [List.length_map] at h1
  have h2 := R.size
  have h3 := R.room
  exact fits_of (by omega) R.tab.dm (by omega)
theorem rowsK_get {i : Nat} {p : Addr × NestedKey} (hr : es.toList = rowsK w L) (h : L[i]? = some p) : es[i]? = some (kh w p.2, Value.ref p.1) := by
  rw [← Array.getElem?_toList, hr]
  unfold rowsK
  rw [List.getElem?_map, h]
  rfl
theorem SetK.noGap (R : SetK P w s.heap a L es ep t) : ¬ t.gaveWay = true := by
  unfold SetTable.gaveWay
  rw [mask_odd R.tab.mok]
  decide
theorem nth_dummy (m : Nat) : ∀ (n : Nat) (p : SetTable.Probe), p.dummy = none → (nth m p n).dummy = none
  | 0, _, h => h
  | n + 1, p, h => nth_dummy m n (adv m p) (by
    unfold adv
    split <;> exact h)
/-- the search, from the c-th step of the way on -/
theorem seek (R : SetK P w s.heap a L es ep t) {x : Addr} {k : NestedKey} (hx : IsK s.heap k x) (hu : A.units + 8 < cLine) {K : Nat} (hKf : K < 10 * SetTable.turns t.mask)
    (hK : way t.mask (kh w k) K ∉ t.place.toList) (hKb : ∀ c, c < K → way t.mask (kh w k) c ∈ t.place.toList) {Q : SetFound → Shared → Prop}
    (hin : k ∈ L.map (·.2) → Q (.there none) s) (hout : k ∉ L.map (·.2) → Q (.free (way t.mask (kh w k) K) false) s) :
    ∀ (f c : Nat) (stand : Option SetTable.Probe), stand.getD (t.probeStart (kh w k)) = nth t.mask (runAt t.mask (SetTable.bits (kh w k) % (t.mask + 1)) (SetTable.bits (kh w k))) c → c ≤ K → K - c < f →
      (∀ (i : Nat) p, L[i]? = some p → p.2 = k → ∃ c', c ≤ c' ∧ c' < K ∧ t.place.toList[i]? = some (way t.mask (kh w k) c')) →
      wpAny (model P w) A (setSearchFrom a (.ref x) (kh w k) true f stand) Q E s
  | 0, c, stand, _, _, hf, _ => absurd hf (Nat.not_lt_zero _)
  | f + 1, c, stand, hst, hc, hf, hre => by
    obtain ⟨o, ho, hex, hd⟩ := R.ob
    rw [setSearchFrom_succ]
    refine wpAny_bind (wpAny_setState_of ho hd R.fits ?_)
    dsimp only
    refine wp_if_neg R.noGap ?_
    try refine wpAny_bind (wpAny_pure ?_)
    generalize hp0 : runAt t.mask (SetTable.bits (kh w k) % (t.mask + 1)) (SetTable.bits (kh w k)) = p0 at hst ⊢
    have hway : ∀ q, (nth t.mask p0 q).j = way t.mask (kh w k) q := fun q => by rw [← hp0]
    have hnd : (nth t.mask p0 c).dummy = none := nth_dummy t.mask c p0 (by rw [← hp0]; rfl)
    have sh : ∀ q, nth t.mask (nth t.mask p0 c) q = nth t.mask p0 (c + q) := fun q => (nth_add t.mask c _ q).symm
    have e1 : ∀ q, (nth t.mask (nth t.mask p0 c) q).j = way t.mask (kh w k) (c + q) := fun q => by rw [sh, hway]
    have spec := go_spec t R.tab.ris R.tab.dm (fun i => (es[i]?.map (·.1)).getD 0) (kh w k) (10 * SetTable.turns t.mask) (K - c) (nth t.mask p0 c) hnd (by omega)
      (fun q hq => by rw [e1]; exact hKb (c + q) (by omega)) (by rw [e1, show c + (K - c) = K by omega]; exact hK)
    have hashAt : ∀ (i : Nat) p, L[i]? = some p → (fun i => (es[i]?.map (·.1)).getD 0) i = kh w p.2 := fun i p hp => by
      show (es[i]?.map (·.1)).getD 0 = _
      rw [rowsK_get R.rows hp]
      rfl
    rcases spec with ⟨q, i, hq, hi, hh, hno, hpr⟩ | ⟨hno, hpr⟩
    · have hpr' : t.probe (fun i => (es[i]?.map (·.1)).getD 0) (kh w k) (stand.getD (t.probeStart (kh w k))) = some (.candidate (way t.mask (kh w k) (c + q)) i (nth t.mask p0 (c + (q + 1)))) := by
        rw [hst, ← e1, ← sh]
        exact hpr
      rw [hpr']
      dsimp only
      rw [e1] at hi
      have hil : i < L.length := by
        have h1 : i < t.place.toList.length := (List.getElem?_eq_some_iff.mp hi).1
        have h2 := R.tab.sz
        rw [List.length_map] at h2
        rw [Array.length_toList] at h1
        omega
      have hp : L[i]? = some L[i] := List.getElem?_eq_getElem hil
      generalize L[i] = p at hp
      have hmem : p ∈ L := List.mem_of_getElem? hp
      have rest : wpAny (model P w) A (searchRest a (.ref x) (kh w k) true f es t (way t.mask (kh w k) (c + q)) i (nth t.mask p0 (c + (q + 1)))) Q E s := by
        unfold searchRest
        rw [rowsK_get R.rows hp]
        dsimp only
        refine wpAny_bind (wpAny_holding ((nestedKind P w).eqBool hu (R.key p hmem) hx ?_))
        refine wpAny_bind (wpAny_setState_of ho hd R.fits ?_)
        dsimp only
        by_cases hkk : p.2 = k
        · refine wp_if_pos (by simp [hkk]) (wpAny_pure (hin (List.mem_map.mpr ⟨p, hmem, hkk⟩)))
        · refine wp_if_neg (by simp [hkk]) ?_
          try refine wpAny_bind (wpAny_pure ?_)
          rw [sameMem]
          dsimp only
          have hsl : t.slot (way t.mask (kh w k) (c + q)) = .live i := slot_live R.tab.ris hi
          simp only [if_true, hsl, rowsK_get R.rows hp]
          refine wpAny_bind (wpAny_isSame_ref_self (wpAny_bind (wpAny_pure ?_)))
          simp only [if_true]
          refine wp_if_neg (by simp [hkk]) ?_
          refine seek R hx hu hKf hK hKb hin hout f (c + (q + 1)) _ (by rw [← hp0]; rfl) (by omega) (by omega) fun i0 p1 h0 hk0 => ?_
          obtain ⟨c', a1, a2, a3⟩ := hre i0 p1 h0 hk0
          refine ⟨c', ?_, a2, a3⟩
          rcases Nat.lt_trichotomy c' (c + q) with z | z | z
          · exfalso
            refine hno (c' - c) i0 (by omega) (by rw [e1, show c + (c' - c) = c' by omega]; exact a3) ?_
            exact (hashAt i0 p1 h0).trans (congrArg (kh w) hk0)
          · exfalso
            rw [z] at a3
            have s0 := slot_live R.tab.ris a3
            rw [hsl] at s0
            injection s0 with s0
            rw [← s0, hp] at h0
            exact hkk ((congrArg Prod.snd (Option.some.inj h0)).trans hk0)
          · omega
      by_cases hl : t.led = true
      · refine wp_if_neg (by simp [hl]) ?_
        try refine wpAny_bind (wpAny_pure ?_)
        exact rest
      · refine wp_if_pos (by simp [hl]) ?_
        refine wpAny_bind (seen_key hx (fun y hy => ?_) ?_)
        · obtain ⟨e, he, ee⟩ := List.mem_map.mp hy
          have he1 : e ∈ es ∧ e.1 = kh w k := by simpa using he
          have he2 : e ∈ es.toList := by simpa using he1.1
          rw [R.rows] at he2
          obtain ⟨p2, hp2, e2⟩ := List.mem_map.mp he2
          exact ⟨p2.2, p2.1, by rw [← ee, ← e2], R.key p2 hp2⟩
        · refine wp_if_neg (by decide) ?_
          try refine wpAny_bind (wpAny_pure ?_)
          exact rest
    · have hpr' : t.probe (fun i => (es[i]?.map (·.1)).getD 0) (kh w k) (stand.getD (t.probeStart (kh w k))) = some (.empty (way t.mask (kh w k) K) none) := by
        have e2 : way t.mask (kh w k) K = (nth t.mask (nth t.mask p0 c) (K - c)).j := by
          rw [e1, show c + (K - c) = K by omega]
        rw [hst, e2]
        exact hpr
      rw [hpr']
      dsimp only
      refine wpAny_pure (hout fun hm => ?_)
      obtain ⟨p1, h0, hk0⟩ := List.mem_map.mp hm
      obtain ⟨i0, hi0, e0⟩ := List.getElem_of_mem h0
      have h00 : L[i0]? = some p1 := by rw [List.getElem?_eq_getElem hi0, e0]
      obtain ⟨c', a1, a2, a3⟩ := hre i0 p1 h00 hk0
      refine hno (c' - c) i0 (by omega) (by rw [e1, show c + (c' - c) = c' by omega]; exact a3) ?_
      exact (hashAt i0 p1 h00).trans (congrArg (kh w) hk0)
theorem seek_at (R : SetK P w s.heap a L es ep t) {x : Addr} {k : NestedKey} (hx : IsK s.heap k x) (hu : A.units + 8 < cLine) {Q : SetFound → Shared → Prop} (hin : k ∈ L.map (·.2) → Q (.there none) s)
    (hout : ∀ K, k ∉ L.map (·.2) → way t.mask (kh w k) K ∉ t.place.toList → (∀ c, c < K → way t.mask (kh w k) c ∈ t.place.toList) → Q (.free (way t.mask (kh w k) K) false) s) :
    wpAny (model P w) A (setSearch a (.ref x) (kh w k) true) Q E s := by
  have hroom := R.room
  obtain ⟨K, hKf, hK, hKb⟩ := R.tab.first (by rw [List.length_map]; omega) (kh w k)
  have hbig : K < 100000 := by
    have : 10 * SetTable.turns t.mask ≤ 1420 := by
      unfold SetTable.turns
      rcases R.tab.mok with e | e | e <;> omega
    omega
  unfold setSearch
  refine seek R hx hu hKf hK hKb hin (fun hn => hout K hn hK hKb) 100000 0 none rfl (Nat.zero_le _) (by omega) fun i p hp hk => ?_
  have hi : (L.map fun p => kh w p.2)[i]? = some (kh w k) := by
    rw [List.getElem?_map, hp, ← hk]
    rfl
  have hil : i < t.place.toList.length := by
    have h1 : i < L.length := (List.getElem?_eq_some_iff.mp hp).1
    have h2 := R.tab.sz
    rw [List.length_map] at h2
    rw [Array.length_toList]
    omega
  have hj := List.getElem?_eq_getElem hil
  obtain ⟨c, hc, e⟩ := R.tab.before hK hi hj
  exact ⟨c, Nat.zero_le _, hc, by rw [hj, e]⟩
end
end MkS
/-! ## MkSet2 -/
set_option autoImplicit true
set_option Elab.async false
set_option linter.all false
set_option maxRecDepth 100000
set_option maxHeartbeats 4000000
/-! .. adding; set(xs); what is collected. -/
namespace MkS
open PySem PySem.Spec PyProof.Rows L2
section
variable {P : Program} {w : World} {A : Around} {E : Value → Shared → Prop} {s : Shared}
variable {a : Addr} {L : Mem} {es : Array (Int × Value)} {ep : Nat} {t : SetTable}
theorem rowsK_ins (L : Mem) (p : Nat) (x : Addr) (k : NestedKey) : rowsK w (L.take p ++ (x, k) :: L.drop p) = (rowsK w L).take p ++ (kh w k, Value.ref x) :: (rowsK w L).drop p := by
  simp only [rowsK, List.map_append, List.map_cons, List.map_take, List.map_drop]
theorem filterMap_range {α : Type} (L : List α) : (List.range L.length).filterMap (fun i => L[i]?) = L := by
  have go : ∀ n, n ≤ L.length → (List.range n).filterMap (fun i => L[i]?) = L.take n := fun n => by
    induction n with
    | zero => intro _; rfl
    | succ n ih =>
      intro hn
      rw [List.range_succ, List.filterMap_append, ih (Nat.le_of_succ_le hn), List.take_add_one, List.getElem?_eq_getElem hn, List.filterMap_cons_some (List.getElem?_eq_getElem hn)]
      rfl
  rw [go _ (Nat.le_refl _), List.take_length]
theorem rowsK_order (L : Mem) (es : Array (Int × Value)) (order : Array Nat) (hr : es.toList = rowsK w L) (hp : order.toList.Perm (List.range L.length)) :
    ∃ L2, (order.filterMap (es[·]?)).toList = rowsK w L2 ∧ L2.Perm L ∧ (L2.map fun p => kh w p.2) = order.toList.map fun i => (es.map (·.1)).getD i 0 := by
  have key : ∀ l : List Nat, (∀ i ∈ l, i < L.length) → l.filterMap (fun i => es[i]?) = rowsK w (l.filterMap fun i => L[i]?) ∧ ((l.filterMap fun i => L[i]?).map fun p => kh w p.2) = l.map fun i => (es.map (·.1)).getD i 0 := by
    intro l
    induction l with
    | nil => intro _; exact ⟨rfl, rfl⟩
    | cons i l ih =>
      intro hl
      have hi := hl i List.mem_cons_self
      obtain ⟨e1, e3⟩ := ih fun j hj => hl j (List.mem_cons_of_mem _ hj)
      have ent := rowsK_get hr (List.getElem?_eq_getElem hi)
      rw [List.filterMap_cons_some ent, List.filterMap_cons_some (List.getElem?_eq_getElem hi), e1]
      refine ⟨rfl, ?_⟩
      rw [List.map_cons, List.map_cons, e3]
      have e5 : (es.map (·.1))[i]? = some (kh w (L[i]).2) := by
        rw [Array.getElem?_map, ent]
        rfl
      simp [Array.getD_eq_getD_getElem?, e5]
  obtain ⟨e1, e3⟩ := key order.toList fun i hi => List.mem_range.mp (hp.mem_iff.mp hi)
  refine ⟨_, by first | (rw [Array.toList_filterMap]; exact e1) | simpa using e1, ?_, e3⟩
  have h1 := hp.filterMap fun i => L[i]?
  rw [filterMap_range] at h1
  exact h1
/-- the table laid anew, larger -/
theorem relayK {o : Obj} (ho : s.heap.get? a = some o) (hex : o.ExactSet) (hd : o.data = .set es ep t) (hrows : es.toList = rowsK w L) (hsz : t.place.size = es.size) (hdm : t.dummies = #[]) (hfl : es.size ≤ t.mask)
    (nd : (L.map (·.2)).Nodup) (key : ∀ p ∈ L, IsK s.heap p.2 p.1) (ld : w.params.followText "set-order" = true ∨ t.led = true) (few : L.length < 64) {wanted M : Nat}
    (hw : SetTable.sizeAbove wanted - 1 = M) (hM : MaskOk M) (hw2 : SetTable.sizeAbove wanted ≤ 128) (hn : L.length * 5 < M * 3) {Q : Unit → Shared → Prop}
    (hQ : ∀ h' L' es' ep' t', Heap.SameBut a s.heap h' → SetK P w h' a L' es' ep' t' → L'.Perm L → Q () { s with heap := h' }) : wpAny (model P w) A (setRelay a wanted) Q E s := by
  have hsl : es.size = L.length := by rw [← Array.length_toList, hrows, rowsK_len]
  obtain ⟨t', order, e, hp, T, em, el, ep', ed⟩ := relaid_ok t (hs := es.map (·.1)) (wanted := wanted) hw hM (by rw [Array.size_map, hsl]; omega)
  rw [Array.size_map, hsl] at hp
  obtain ⟨L2, r1, r2, r3⟩ := rowsK_order L es order hrows hp
  rw [← r3] at T
  have hs2 : (order.filterMap (es[·]?)).size = es.size := by rw [← Array.length_toList, r1, rowsK_len, r2.length_eq, hsl]
  rw [setRelay_eq]
  refine wpAny_bind (wpAny_setState_of ho hd (fits_of hsz hdm hfl) ?_)
  dsimp only
  refine wp_if_neg (by rw [sizeLine_eq]; omega) ?_
  try refine wpAny_bind (wpAny_pure ?_)
  rw [e]
  dsimp only
  refine wpAny_bind (wp_if_neg (by rw [hs2]; simp) ?_)
  try refine wpAny_bind (wpAny_pure ?_)
  refine wpAny_pure ?_
  dsimp only
  refine wpAny_storeSet_of ho hd ?_ (by rw [hs2, hsl, sizeLine_eq]; omega)
  have sb : Heap.SameBut a s.heap (s.heap.update a (Obj.putSet (order.filterMap (es[·]?)) t')) := Heap.SameBut.update ..
  refine hQ _ L2 (order.filterMap (es[·]?)) (ep + 1) t' sb ⟨⟨_, store_at ho hd, ⟨hex.1, hex.2.1, hex.2.2⟩, rfl⟩, r1, T, (r2.map (·.2)).nodup_iff.mpr nd, fun p hpm => isK_same (key p (r2.mem_iff.mp hpm)) ho hd sb, by rw [el]; exact ld, ?_, by rw [r2.length_eq]; exact few⟩ r2
  rw [r2.length_eq, em]
  exact hn
theorem tabOk_plain {t : SetTable} {hs : List Int} (T : TabOk t hs) (b : Bool) : TabOk { t with plain := b } hs := ⟨T.ris, T.dm, T.sz, T.mok, T.bd, T.reach⟩
/-- a member added -/
theorem addK (R : SetK P w s.heap a L es ep t) {x : Addr} {k : NestedKey} (hx : IsK s.heap k x) (hu : A.units + 8 < cLine) (hfew : L.length + 1 < 64) {Q : Bool → Shared → Prop}
    (hQ : ∀ b h' L' es' ep' t', Heap.SameBut a s.heap h' → SetK P w h' a L' es' ep' t' → (k ∈ L.map (·.2) → L' = L) → (k ∉ L.map (·.2) → L'.Perm ((x, k) :: L)) → Q b { s with heap := h' }) :
    wpAny (model P w) A (setAddHashed a (.ref x) (kh w k)) Q E s := by
  obtain ⟨o, ho, hex, hd⟩ := R.ob
  have hsl := R.size
  have hroom := R.room
  unfold setAddHashed
  refine wpAny_holding ?_
  rw [show (100000 : Nat) = 99999 + 1 from rfl, setAddHashedIn_succ]
  refine wpAny_bind (wpAny_setState_of ho hd R.fits ?_)
  dsimp only
  refine wp_if_neg (by simp [byScan, Value.scannable]) ?_
  try refine wpAny_bind (wpAny_pure ?_)
  refine wpAny_bind (seek_at R hx hu (fun hm => ?_) fun K hm hK hb => ?_)
  · dsimp only
    exact wpAny_pure (hQ false s.heap L es ep t (Heap.SameBut.refl a s.heap) R (fun _ => rfl) fun z => absurd hm z)
  · dsimp only
    refine wpAny_bind (wpAny_setState_of ho hd R.fits ?_)
    dsimp only
    obtain ⟨q1, q2, q3, q4, q5, q6, q7, q8, q9⟩ := R.tab.put hK hb
    generalize hpt : t.put (way t.mask (kh w k) K) = pt at q1 q3 q4 q5 q6 q7 q8 q9 ⊢
    obtain ⟨t1, p⟩ := pt
    dsimp only at q1 q3 q4 q5 q6 q7 q8 q9 ⊢
    subst q1
    have hin : (SetTable.insertAt es (SetTable.below t.place (way t.mask (kh w k) K)) (kh w k, Value.ref x)).toList = rowsK w (L.take (SetTable.below t.place (way t.mask (kh w k) K)) ++ (x, k) :: L.drop (SetTable.below t.place (way t.mask (kh w k) K))) := by
      rw [SetTable.toList_insertAt, rowsK_ins, R.rows]
    generalize SetTable.below t.place (way t.mask (kh w k) K) = p at q2 q3 hin ⊢
    have pm := put_perm L p (x, k)
    have hlen : (L.take p ++ (x, k) :: L.drop p).length = L.length + 1 := pm.length_eq
    have hhs : (L.take p ++ (x, k) :: L.drop p).map (fun p => kh w p.2) = (L.map fun p => kh w p.2).take p ++ kh w k :: (L.map fun p => kh w p.2).drop p := by
      rw [List.map_append, List.map_cons, List.map_take, List.map_drop]
    rw [← hhs] at q3
    have nd1 : ((L.take p ++ (x, k) :: L.drop p).map (·.2)).Nodup := by
      refine (pm.map (·.2)).nodup_iff.mpr ?_
      rw [List.map_cons]
      exact List.nodup_cons.mpr ⟨hm, R.nd⟩
    have hes : (SetTable.insertAt es p (kh w k, Value.ref x)).size = L.length + 1 := by rw [← Array.length_toList, hin, rowsK_len, hlen]
    generalize SetTable.insertAt es p (kh w k, Value.ref x) = es1 at hin hes ⊢
    generalize L.take p ++ (x, k) :: L.drop p = L1 at pm hlen q3 nd1 hin
    rw [List.length_map] at q9
    -- whatever is told of the member's hash
    have fin : ∀ t2 : SetTable, TabOk t2 (L1.map fun p => kh w p.2) → t2.mask = t.mask → t2.led = t.led → t2.fill = L.length + 1 →
        wpAny (model P w) A (storeSet a es1 t2 >>= fun _ => if (!false && t2.tooFull) = true then (setRelay a (SetTable.grown (es.size + 1)) >>= fun _ => pure true) else pure true) Q E s := fun t2 T2 m2 l2 f2 => by
      refine wpAny_bind (wpAny_storeSet_of ho hd ?_ (by rw [hes, sizeLine_eq]; omega))
      have sb : Heap.SameBut a s.heap (s.heap.update a (Obj.putSet es1 t2)) := Heap.SameBut.update ..
      have ho1 := store_at (es' := es1) (t' := t2) ho hd
      generalize s.heap.update a (Obj.putSet es1 t2) = h1 at sb ho1 ⊢
      have key1 : ∀ p ∈ L1, IsK h1 p.2 p.1 := fun p hp => by
        rcases List.mem_cons.mp (pm.mem_iff.mp hp) with e | hp
        · rw [e]; exact isK_same hx ho hd sb
        · exact isK_same (R.key p hp) ho hd sb
      have ld1 : w.params.followText "set-order" = true ∨ t2.led = true := by rw [l2]; exact R.led
      by_cases hf : t2.tooFull = true
      · first
          | (refine wpAny_bind ?_; refine wp_if_pos (by simp [hf]) ?_)
          | (refine wp_if_pos (by simp [hf]) ?_; refine wpAny_bind ?_)
        have hfull : (L.length + 1) * 5 ≥ t2.mask * 3 := by
          have h := hf
          unfold SetTable.tooFull at h
          rw [decide_eq_true_eq, f2] at h
          exact h
        rw [hsl]
        have hsz1 : t2.place.size = es1.size := by
          have h := T2.sz
          rw [List.length_map, hlen] at h
          rw [h, hes]
        have cases2 : (t.mask = 7 ∧ L.length = 4) ∨ (t.mask = 31 ∧ L.length = 18) := by
          rcases R.tab.mok with e | e | e
          · left; rw [m2, e] at hfull; rw [e] at hroom; exact ⟨e, by omega⟩
          · right; rw [m2, e] at hfull; rw [e] at hroom; exact ⟨e, by omega⟩
          · exfalso; rw [m2, e] at hfull; omega
        have go : ∀ M, SetTable.sizeAbove (SetTable.grown (L.length + 1)) - 1 = M → MaskOk M → SetTable.sizeAbove (SetTable.grown (L.length + 1)) ≤ 128 → (L.length + 1) * 5 < M * 3 →
            wpAny (model P w) A (setRelay a (SetTable.grown (L.length + 1))) (fun _ s' => wpAny (model P w) A (pure true) Q E s') E { s with heap := h1 } := fun M h1' h2' h3' h4' => by
          refine relayK (s := { s with heap := h1 }) ho1 ⟨hex.1, hex.2.1, hex.2.2⟩ rfl hin hsz1 T2.dm (by rw [hes, m2]; rcases cases2 with ⟨e, e2⟩ | ⟨e, e2⟩ <;> omega) nd1 key1 ld1 (by rw [hlen]; exact hfew) h1' h2' h3' (by rw [hlen]; exact h4') ?_
          intro h2 L2 es2 ep2 t3 sb2 R2 pm2
          exact wpAny_pure (hQ true h2 L2 es2 ep2 t3 (sb.trans sb2) R2 (fun z => absurd z hm) fun _ => pm2.trans pm)
        rcases cases2 with ⟨_, e2⟩ | ⟨_, e2⟩
        · exact go 31 (by rw [e2, size_20]) (.inr (.inl rfl)) (by rw [e2, size_20]; decide) (by omega)
        · exact go 127 (by rw [e2, size_76]) (.inr (.inr rfl)) (by rw [e2, size_76]; decide) (by omega)
      · first
          | refine wp_if_neg (by simp [hf]) ?_
          | (refine wpAny_bind ?_; refine wp_if_neg (by simp [hf]) ?_; refine wpAny_pure ?_)
        refine wpAny_pure (hQ true h1 L1 es1 (ep + 1) t2 sb ⟨⟨_, ho1, ⟨hex.1, hex.2.1, hex.2.2⟩, rfl⟩, hin, T2, nd1, key1, ld1, ?_, by rw [hlen]; exact hfew⟩ (fun z => absurd z hm) fun _ => pm)
        have h := hf
        unfold SetTable.tooFull at h
        rw [decide_eq_true_eq, f2] at h
        rw [hlen]
        omega
    by_cases hp1 : t1.plain = true
    · refine wp_if_pos hp1 (wpAny_bind (hashAny_key k _ 8 hx.1 hx.2 _ _ _ fun b => ?_))
      cases b with
      | true => exact fin t1 q3 q4 q5 q9
      | false => exact fin { t1 with plain := false } (tabOk_plain q3 false) q4 q5 q9
    · exact wp_if_neg hp1 (wpAny_bind (wpAny_pure (fin t1 q3 q4 q5 q9)))
end
end MkS
/-! ## MkSet3 -/
set_option autoImplicit true
set_option Elab.async false
set_option linter.all false
set_option maxRecDepth 100000
set_option maxHeartbeats 4000000
/-! .. set(xs) and sorted of what can be collected, as rules of the hand layer. -/
namespace MkS
open PySem PySem.Spec PyProof.Rows L2
/-- what the set has got from the first i items -/
structure GotK (ks : Mem) (i : Nat) (L : Mem) : Prop where
  sub : ∀ p ∈ L, p ∈ ks.take i
  all : ∀ p ∈ ks.take i, p.2 ∈ L.map (·.2)
  len : L.length ≤ i
theorem GotK.step {ks L L' : Mem} {i : Nat} {x : Addr × NestedKey} (g : GotK ks i L) (h : ks[i]? = some x) (c1 : x.2 ∈ L.map (·.2) → L' = L) (c2 : x.2 ∉ L.map (·.2) → L'.Perm (x :: L)) : GotK ks (i + 1) L' := by
  have tk : ks.take (i + 1) = ks.take i ++ [x] := take_next h
  rcases Classical.em (x.2 ∈ L.map (·.2)) with c | c
  · rw [c1 c]
    refine ⟨fun p hp => by rw [tk]; exact List.mem_append_left _ (g.sub p hp), fun p hp => ?_, Nat.le_succ_of_le g.len⟩
    rw [tk] at hp
    rcases List.mem_append.mp hp with z | z
    · exact g.all p z
    · rw [List.mem_singleton.mp z]; exact c
  · have pm := c2 c
    refine ⟨fun p hp => ?_, fun p hp => ?_, by rw [pm.length_eq, List.length_cons]; exact Nat.succ_le_succ g.len⟩
    · rw [tk]
      rcases List.mem_cons.mp (pm.mem_iff.mp hp) with e | z
      · rw [e]; exact List.mem_append_right _ List.mem_cons_self
      · exact List.mem_append_left _ (g.sub p z)
    · rw [(pm.map (·.2)).mem_iff, List.map_cons]
      rw [tk] at hp
      rcases List.mem_append.mp hp with z | z
      · exact List.mem_cons_of_mem _ (g.all p z)
      · rw [List.mem_singleton.mp z]; exact List.mem_cons_self
section
variable {P : Program} {w : World} {A : Around} {E : Value → Shared → Prop} {s : Shared}
theorem SetK.keep {h h' : Heap} {a : Addr} {L : Mem} {es : Array (Int × Value)} {ep : Nat} {t : SetTable} (R : SetK P w h a L es ep t) (ha : ∀ o, h.get? a = some o → h'.get? a = some o) (ht : ∀ p ∈ L, IsK h' p.2 p.1) : SetK P w h' a L es ep t := by
  obtain ⟨o, ho, r⟩ := R.ob
  exact ⟨⟨o, ha o ho, r⟩, R.rows, R.tab, R.nd, ht, R.led, R.room, R.few⟩
abbrev freshSet (w : World) : Obj := { cls := .type "set", dict := none, data := .set #[] 0 (.fresh 0 0 (!w.params.followText "set-order")) }
theorem setK_fresh {h : Heap} {a : Addr} (ho : h.get? a = some (freshSet w)) : SetK P w h a [] #[] 0 (.fresh 0 0 (!w.params.followText "set-order")) where
  ob := ⟨_, ho, ⟨rfl, rfl, rfl⟩, rfl⟩
  rows := rfl
  tab := ⟨List.Pairwise.nil, rfl, rfl, .inl rfl, fun x hx => (by cases hx), fun i h j hi => (by simp at hi)⟩
  nd := List.nodup_nil
  key := fun p hp => (by cases hp)
  led := by
    show _ ∨ (!w.params.followText "set-order") = true
    cases w.params.followText "set-order"
    · exact .inr rfl
    · exact .inl rfl
  room := by show 0 * 5 < 7 * 3; decide
  few := by show 0 < 64; decide
/-- the loop of set.update -/
theorem updateK {I : Addr} {fp wr : List Addr} {G : Array GenState → Array GenState → Prop} {n : Nat} {Pv : Nat → Value → Prop} {St : Nat → Shared → Prop} {R : Result → Shared → Prop}
    (W : WalksS P w A.in1 I fp wr G n Pv St) (S : Addr) (hSf : S ∉ fp) (ks : Mem) (hn : n = ks.length) (hfew : ks.length < 64) (hval : ∀ i v, Pv i v → ∃ p, ks[i]? = some p ∧ v = .ref p.1)
    (h0 : Heap) (hk : ∀ p ∈ ks, IsK h0 p.2 p.1) (hS0 : h0.get? S = none) (hw0 : ∀ b ∈ wr, h0.get? b = none) (hu : A.in1.units + 8 < cLine) :
    ∀ (k i : Nat) (s : Shared), n - i = k → i ≤ n → St i s → (∀ b o, h0.get? b = some o → s.heap.get? b = some o) → (∃ L es ep t, SetK P w s.heap S L es ep t ∧ GotK ks i L) →
      (∀ s' L es ep t, Moved (S :: wr) G s s' → SetK P w s'.heap S L es ep t → GotK ks n L → (∀ b o, h0.get? b = some o → s'.heap.get? b = some o) → R (.ok (.ret .none)) s') →
      codeAny (model P w) A (.builtin "set.update.loop" ⟨[.ref S, .ref I], []⟩) R s := by
  have hSw : S ∉ wr := fun h => hSf (W.sub _ h)
  have hsub : ∀ b ∈ wr, b ∈ S :: wr := fun b hb => List.mem_cons_of_mem _ hb
  have keepM : ∀ {s s' : Shared}, Moved wr G s s' → (∀ b o, h0.get? b = some o → s.heap.get? b = some o) → ∀ b o, h0.get? b = some o → s'.heap.get? b = some o := fun hm hkp b o e =>
    hm.heap b o (fun hb => by rw [hw0 b hb] at e; cases e) (hkp b o e)
  intro k
  induction k with
  | zero =>
    intro i s hk' hi hst hkp ⟨L, es, ep, t, hS, g⟩ hR
    obtain rfl : i = n := by omega
    refine codeAny_builtin F.entry_set_update_loop ?_
    rw [Around.under_plainId F.plain_set_update_loop _]
    show wpAny _ A.in1 (pyNext (.ref I) >>= _) _ _ s
    refine wpAny_bind (W.done s _ _ hst fun s' hm => ?_)
    have hkp' := keepM hm hkp
    exact wpAny_pure (hR s' L es ep t (hm.mono hsub) (hS.keep (fun o e => hm.heap S o hSw e) fun p hp => isK_keep (hk p (List.mem_of_mem_take (g.sub p hp))) hkp') g hkp')
  | succ k ih =>
    intro i s hk' hi hst hkp ⟨L, es, ep, t, hS, g⟩ hR
    have hlt : i < n := by omega
    refine codeAny_builtin F.entry_set_update_loop ?_
    rw [Around.under_plainId F.plain_set_update_loop _]
    show wpAny _ A.in1 (pyNext (.ref I) >>= _) _ _ s
    refine wpAny_bind (W.item i s _ _ hlt hst fun v s' hP hst' hm => ?_)
    obtain ⟨p, hp, rfl⟩ := hval i v hP
    have hkp' := keepM hm hkp
    have hS' : SetK P w s'.heap S L es ep t := hS.keep (fun o e => hm.heap S o hSw e) fun q hq => isK_keep (hk q (List.mem_of_mem_take (g.sub q hq))) hkp'
    have hx : IsK s'.heap p.2 p.1 := isK_keep (hk p (List.mem_of_getElem? hp)) hkp'
    show wpAny _ A.in1 (holding [Value.ref p.1] (setAdd S (.ref p.1)) >>= _) _ _ s'
    refine wpAny_bind (wpAny_holding ?_)
    unfold setAdd
    refine wpAny_holding (wpAny_bind ((nestedKind P w).pyHash hu hx ?_))
    refine addK (s := { s' with toks := s'.toks + p.2.draws }) hS' hx hu (by have := g.len; omega) fun b h' L' es' ep' t' hsb hS2 c1 c2 => ?_
    have hkp2 : ∀ b o, h0.get? b = some o → h'.get? b = some o := fun b o e => (hsb.2 b (fun z => by rw [z, hS0] at e; cases e)).trans (hkp' b o e)
    refine wpAny_pure ⟨plainId_quiet F.plain_set_update_loop _, ih (i + 1) _ (by omega) hlt (W.frame _ s' _ _ hst' (Nat.le_add_right _ _) fun b hb o e => ?_) hkp2 ⟨L', es', ep', t', hS2, g.step hp c1 c2⟩ fun s'' L2 es2 ep2 t2 hm'' hS'' g'' hkp'' => ?_⟩
    · rw [hsb.2 b (fun h : b = S => hSf (by rw [← h]; exact hb))]; exact e
    · refine hR s'' L2 es2 ep2 t2 (Moved.trans W.gtrans ((hm.mono hsub).then_heap (Nat.le_add_right _ _) fun b o hb e => ?_) hm'') hS'' g'' hkp''
      rw [hsb.2 b (fun h : b = S => hb (by rw [h]; exact List.mem_cons_self))]; exact e
/-- set(xs), xs a list of keys -/
theorem call_setK {l : Addr} {items : Array Value} (ks : Mem) {Q : Value → Shared → Prop} (hh : A.handled = none) (hl : s.heap.IsList l items) (hit : items.toList = ks.map fun p => Value.ref p.1)
    (hk : ∀ p ∈ ks, IsK s.heap p.2 p.1) (hfew : ks.length < 64) (hu : A.units + 12 < cLine)
    (h : ∀ (h' : Heap) (tk : Nat) L es ep t, SetK P w h' s.heap.objs.size L es ep t → GotK ks ks.length L → (∀ b o, s.heap.get? b = some o → h'.get? b = some o) → Q (.ref s.heap.objs.size) { s with heap := h', toks := tk }) :
    wpAny (model P w) A (call (.type "set") [.ref l]) Q E s := by
  have hisz : items.size = ks.length := by rw [← Array.length_toList, hit, List.length_map]
  obtain ⟨c, tl, hmro⟩ := F.called_set.mro
  have hmade := F.called_set.made
  have hsub := F.called_set.sub
  refine wpAny_call (codeAny_of_tree ?_)
  show wpAny _ _ (callAny (.type "set") _) _ _ _
  refine wpAny_pure ⟨Code.quiet_builtin _ (by decide +kernel), codeAny_builtin F.entry_type_call ?_⟩
  rw [Around.under_plain (weight_type_call_type "set" [.ref l] []) rfl]
  have h1 := F.called_set.notType
  have h2 := F.called_set.canCreate
  have hct := F.typeCall_set_1 (.ref l)
  repeat (any_goals (first | assumption | wp_step))
  refine codeAny_mono (code_set_led1 (.ref l) (E := E) (Q₁ := fun obj s₁ => obj = .ref s.heap.objs.size ∧ s₁ = { s with heap := s.heap.push (freshSet w) }) ⟨rfl, rfl⟩) fun r s₁ hr => ?_
  cases r with
  | error e => exact hr
  | ok fl =>
    cases fl with
    | ret obj =>
      obtain ⟨rfl, rfl⟩ := hr
      have hS : (s.heap.push (freshSet w)).get? s.heap.objs.size = some (freshSet w) := Heap.get?_push_size _ rfl
      have hT : Shared.TypeIs { s with heap := s.heap.push (freshSet w) } (.ref s.heap.objs.size) "set" := ⟨_, hS, rfl⟩
      have hli := F.called_set.init.lookup
      have hbi := F.called_set.init.bind (.ref s.heap.objs.size)
      repeat (any_goals (first | assumption | wp_step))
      refine codeAny_mono (codeAny_call_builtin (R := wants (fun r s₂ => r = .none ∧ ∃ h' tk L es ep t, s₂ = { s with heap := h', toks := tk } ∧ SetK P w h' s.heap.objs.size L es ep t ∧ GotK ks ks.length L ∧
          (∀ b o, s.heap.get? b = some o → h'.get? b = some o)) E) F.called_set.init.plain F.entry_set_init (check_set_init_1 hT ?_)) fun r₂ s₂ hr₂ => ?_
      · obtain ⟨ol, hol, hcl, nl, hdl⟩ := hl
        obtain ⟨ocls, odict, odata, oslots⟩ := ol
        simp only at hcl hdl
        subst hcl; subst hdl
        have hol' : (s.heap.push (freshSet w)).get? l = some { cls := .type "list", dict := odict, data := .seq items nl, slots := oslots } := Heap.get?_push_of_some _ hol
        have hsls := F.sub_list_set
        have hslf := F.sub_list_frozenset
        have hne : (Value.type "list" == Value.type "dict") = false := by decide
        have hl1 : (s.heap.push (freshSet w)).IsList l items := ⟨_, hol', rfl, nl, rfl⟩
        unfold Builtin.«set.__init__» noKeywords Builtin.Frozenset.updateFrom
        generalize hPI : pyIter = PI
        wp_walk
        subst hPI
        refine wpAny_pyIter_list hl1 (wpAny_bind (wpAny_runValue ?_))
        have hlS : l < s.heap.objs.size := Heap.lt_size hol
        have hh3 : A.in1.in1.in1.handled = none := by simp [hh]
        have hneI : l ≠ (s.heap.push (freshSet w)).objs.size := by
          rw [Heap.size_push]; exact Nat.ne_of_lt (Nat.lt_succ_of_lt hlS)
        have hSf : s.heap.objs.size ∉ [(s.heap.push (freshSet w)).objs.size, l] := by
          rw [Heap.size_push]; simp only [List.mem_cons, List.mem_singleton, List.not_mem_nil, or_false, not_or]
          exact ⟨Nat.ne_of_lt (Nat.lt_succ_self _), Nat.ne_of_gt hlS⟩
        have hval : ∀ (i : Nat) (v : Value), items[i]? = some v → ∃ p, ks[i]? = some p ∧ v = .ref p.1 := fun i v hv => by
          have q : items.toList[i]? = some v := by rw [Array.getElem?_toList]; exact hv
          rw [hit, List.getElem?_map] at q
          cases hq : ks[i]? with
          | none => rw [hq] at q; cases q
          | some p =>
            rw [hq] at q
            exact ⟨p, rfl, (Option.some.inj q).symm⟩
        have none_of : ∀ b, s.heap.objs.size ≤ b → s.heap.get? b = none := fun b hb => Heap.get?_none_of_le hb
        refine updateK ((Walks.list hh3 _ l hneI items).toS) s.heap.objs.size
          hSf ks hisz hfew hval s.heap hk (none_of _ (Nat.le_refl _)) (fun b hb => none_of b (by
            rw [List.mem_singleton.mp hb, Heap.size_push]
            exact Nat.le_succ _)) (by show A.units + 1 + 1 + 1 + 8 < cLine; omega) (items.size - 0) 0 _ (by omega) (Nat.zero_le _)
          ⟨⟨_, Heap.get?_push_size _ rfl, rfl, rfl⟩, (hl1.push _)⟩ (fun b o e => Heap.get?_push_of_some _ (Heap.get?_push_of_some _ e)) ⟨[], #[], 0, _, setK_fresh (Heap.get?_push_of_some _ hS), ⟨fun p h => (by cases h), fun p h => (by simp at h), Nat.le_refl _⟩⟩ ?hR
        case hR =>
          intro s' L es ep t hm hS' g' hkp
          obtain ⟨h', g2, d', tk', os'⟩ := s'
          have eg : g2 = s.gens := hm.gens
          have ed : d' = s.drawn := hm.drawn
          have eo : os' = s.os := hm.os
          subst eg; subst ed; subst eo
          refine wpAny_pure ?_
          rw [hisz] at g'
          exact wpAny_pure ⟨rfl, h', tk', L, es, ep, t, rfl, hS', g', hkp⟩
      · cases r₂ with
        | error e => exact hr₂
        | ok fl₂ =>
          cases fl₂ with
          | ret r =>
            obtain ⟨rfl, h', tk, L, es, ep, t, rfl, hS', g', hk'⟩ := hr₂
            repeat (any_goals (first | assumption | wp_step))
            exact h _ _ _ _ _ _ hS' g' hk'
          | _ => exact hr₂.elim
    | _ => exact hr.elim
/-! ### sorted -/
mutual
theorem reads_old {h : Heap} : ∀ (d : PyData) (v : Value) (as : List Addr), PySem.W.alike d d = true → Reads h v d as → ∀ b ∈ as, b < h.objs.size
  | .none, _, _, _, r, b, hb => by cases r; cases hb
  | .bool _, _, _, _, r, b, hb => by cases r; cases hb
  | .int _, _, _, _, r, b, hb => by cases r; cases hb
  | .str _, _, _, _, r, b, hb => by cases r; cases hb
  | .list xs, _, _, ha, r, b, hb => by
    cases r with
    | list h1 h2 h3 h4 =>
      rcases List.mem_cons.mp hb with e | hb
      · rw [e]; exact Heap.lt_size h1
      · exact readsAll_old xs _ _ (by simpa [PySem.W.alike] using ha) h4 b hb
  | .tuple xs, _, _, ha, r, b, hb => by
    cases r with
    | tuple h1 h2 h3 h4 => exact readsAll_old xs _ _ (by simpa [PySem.W.alike] using ha) h4 b hb
  | .dict _, _, _, ha, _, _, _ => absurd ha (by simp [PySem.W.alike])
theorem readsAll_old {h : Heap} : ∀ (ds : List PyData) (vs : List Value) (as : List Addr), PySem.W.alikeAll ds ds = true → ReadsAll h vs ds as → ∀ b ∈ as, b < h.objs.size
  | [], _, _, _, r, b, hb => by cases r; cases hb
  | d :: ds, _, _, ha, r, b, hb => by
    cases r with
    | cons h1 h2 =>
      rcases List.mem_append.mp hb with hb | hb
      · exact reads_old d _ _ (PySem.W.alike_all_cons ha).1 h1 b hb
      · exact readsAll_old ds _ _ (PySem.W.alike_all_cons ha).2 h2 b hb
end
/-- sorted(x): what is collected of x reads as data bs; M says what holds behind the gathering -/
theorem sorted_collected {x : Value} {bs : List PyData} {R : Value → PyData → Prop} {Q : Value → Shared → Prop} (M : Shared → Prop)
    (hcol : ∀ Q1 : List Value → Shared → Prop, (∀ s1 vs, M s1 → (∃ cs : List PyData, cs.Perm bs ∧ PySem.W.EachIs (fun v d => R v d ∧ ∃ as, Reads s1.heap v d as) vs cs) → Q1 vs s1) → wpAny (model P w) A.in1 (collect x) Q1 E s)
    (hal : PySem.W.AllAlike bs) (hk : PySem.W.Sortable bs) (hL : bs.length ≤ sizeLine) (hu : ∀ d, d ∈ bs → A.units + 2 + d.depth < cLine)
    (hQ : ∀ s1 s' p (out : List Value) (c : Nat) (cs : List PyData), M s1 → (∀ b o, s1.heap.get? b = some o → s'.heap.get? b = some o) → s'.gens = s1.gens → s'.os = s1.os → s1.heap.objs.size ≤ p →
      s'.heap.get? p = some (seqObj "list" out.toArray c) → cs.Perm bs → PySem.W.EachIs R out (cs.mergeSort (PySem.W.dataLe false id)) → Q (.ref p) s') :
    wpAny (model P w) A (call (.builtin "sorted") [x]) Q E s := by
  refine Calls.call_function_entry kind_sorted plain_sorted entry_sorted (args_sorted1 _) ?_
  unfold Builtin.«sorted»
  refine wpAny_bind (m := checkCount "sorted" 1 1 _) (wpAny_pure ?_)
  refine wpAny_bind (hcol _ fun s1 vs m1 ⟨cs, pm, ev⟩ => ?_)
  have hlen : vs.length = cs.length := ev.length
  refine wpAny_bind (wpAny_newList ?_ (by rw [hlen, pm.length_eq]; exact hL))
  have hoL : (s1.heap.push (seqObj "list" vs.toArray 0)).get? s1.heap.objs.size = some (seqObj "list" vs.toArray 0) := Heap.get?_push_size _ rfl
  have hal' : PySem.W.AllAlike (cs.map id) := by
    rw [List.map_id]
    exact fun d hd d' hd' => hal d (pm.mem_iff.mp hd) d' (pm.mem_iff.mp hd')
  have hk' : PySem.W.Sortable (cs.map id) := by
    rw [List.map_id]
    rcases hk with hk | hk
    · exact .inl fun d hd => hk d (pm.mem_iff.mp hd)
    · exact .inr fun d hd => hk d (pm.mem_iff.mp hd)
  have er : PySem.W.EachIs (fun v b => ∃ as, Reads (s1.heap.push (seqObj "list" vs.toArray 0)) v (id b) as ∧ s1.heap.objs.size ∉ as) vs cs := by
    have go : ∀ (vs' : List Value) (cs' : List PyData), PySem.W.EachIs (fun v d => R v d ∧ ∃ as, Reads s1.heap v d as) vs' cs' → (∀ d ∈ cs', PySem.W.alike d d = true) → PySem.W.EachIs (fun v b => ∃ as, Reads (s1.heap.push (seqObj "list" vs.toArray 0)) v (id b) as ∧ s1.heap.objs.size ∉ as) vs' cs' := by
      intro vs' cs' e
      induction e with
      | nil => intro _; exact .nil
      | @cons v d vs' cs' h1 _ ih =>
        intro ha
        obtain ⟨_, as, r⟩ := h1
        refine .cons ⟨as, PyProof.Rows.Reads.keeps (fun b o e => Heap.get?_push_of_some _ e) r, fun hm => ?_⟩ (ih fun d' hd' => ha d' (List.mem_cons_of_mem _ hd'))
        exact absurd (reads_old d v as (ha d List.mem_cons_self) r _ hm) (Nat.lt_irrefl _)
    exact go vs cs ev fun d hd => hal d (pm.mem_iff.mp hd) d (pm.mem_iff.mp hd)
  refine wpAny_bind (wpAny_holding (PySem.W.list_sort_data (s := { s1 with heap := s1.heap.push (seqObj "list" vs.toArray 0) }) (enc := id) (R := R) hoL (ev.mono fun _ _ h => h.1) er hal' hk' (by rw [pm.length_eq]; exact hL)
    (fun d hd => by show A.units + 1 + 1 + d.depth < cLine; have := hu d (pm.mem_iff.mp hd); omega) fun out ho eo => ?_))
  obtain ⟨c, hc⟩ := sortedHeap_at (vs := vs) (out := out.toArray) hoL
  refine wpAny_pure ⟨_, rfl, hQ s1 _ s1.heap.objs.size out c cs m1 (fun b u e => ?_) rfl rfl (Nat.le_refl _) hc pm eo⟩
  have hlt := Heap.lt_size e
  show (sortedHeap (s1.heap.push (seqObj "list" vs.toArray 0)) s1.heap.objs.size vs out.toArray).get? b = some u
  rw [sortedHeap_old (Nat.ne_of_lt hlt) (by rw [size_push']; exact Nat.lt_succ_of_lt hlt)]
  exact Heap.get?_push_of_some _ e
end
end MkS
/-! ## MkSet4 -/
set_option autoImplicit true
set_option Elab.async false
set_option linter.all false
set_option maxRecDepth 100000
set_option maxHeartbeats 4000000
/-! .. as rules: set(xs), sorted(set), sorted(tuple); what they evaluate to. -/
namespace Mk
open PySem PySem.Spec PyProof.Rows L2 MkM MkS
/-! ### rules -/
def SetB (P : Program) (w : World) (a : Addr) (L : Mem) (h : Heap) : Prop := ∃ (es : Array (Int × Value)) (ep : Nat) (t : SetTable), (∃ o, h.get? a = some o ∧ o.ExactSet ∧ o.data = .set es ep t) ∧ es.toList = rowsK w L ∧ TabOk t (L.map fun p => kh w p.2) ∧ (L.map (·.2)).Nodup ∧
  (w.params.followText "set-order" = true ∨ t.led = true) ∧ L.length * 5 < t.mask * 3 ∧ L.length < 64
def SetO (P : Program) (w : World) (a : Addr) (L : Mem) : HO := .ext fun h => SetB P w a L h
theorem setO_new {P : Program} {w : World} {H : Hp} {h : Heap} {a : Addr} {L : Mem} (R : SetB P w a L h) : ObjOk P w H h a (SetO P w a L) := by
  have ⟨es, ep, t, ⟨o, ho, r⟩, q⟩ := R
  refine ⟨R, ⟨o, ho⟩, fun h1 h2 p k => ?_⟩
  have ⟨es', ep', t', ⟨o', ho', r'⟩, q'⟩ := (p : SetB P w a L h1)
  exact ⟨es', ep', t', ⟨o', k o' ho', r'⟩, q'⟩
section
variable {X : Cx} {pins : List (Addr × Obj)} {σ : St} {H : Hp} {s : Shared}
mutual
theorem dp_key (I : Inv X pins σ H s) : ∀ (k : NestedKey) (v : V) (u : Value), Dp X.K H v k.data → RelV v u → NestedIs s.heap k u
  | .none, _, _, h, r => by
    simp only [NestedKey.data] at h
    cases h
    cases r
    exact .none
  | .num i, _, _, h, r => by
    simp only [NestedKey.data] at h
    cases h
    obtain ⟨t, rfl⟩ := r
    exact .int i t
  | .text x, _, _, h, r => by
    simp only [NestedKey.data] at h
    cases h
    obtain ⟨t, rfl⟩ := r
    exact .text x t
  | .tup ks, _, _, h, r => by
    simp only [NestedKey.data] at h
    cases h with
    | tup hs ha =>
      cases r
      obtain ⟨its, rv, ⟨o, ho, hc, n, hd⟩, _⟩ := I.tuple hs
      exact .tup ho hc hd (by simpa using dp_keys I ks _ its ha rv)
theorem dp_keys (I : Inv X pins σ H s) : ∀ (ks : List NestedKey) (vs : List V) (us : List Value), DpAll X.K H vs (NestedKey.datas ks) → Vals vs us → NestedAll s.heap ks us
  | [], _, _, h, r => by
    simp only [NestedKey.datas] at h
    cases h
    cases r
    exact .nil
  | k :: ks, _, _, h, r => by
    simp only [NestedKey.datas] at h
    cases h with
    | cons a b =>
      cases r with
      | cons r1 r2 => exact .cons (dp_key I k _ _ a r1) (dp_keys I ks _ _ b r2)
end
theorem refs_vals : ∀ {ks : Mem} {us : List Value}, Vals (ks.map fun p => V.ref p.1) us → us = ks.map fun p => Value.ref p.1
  | [], _, .nil => rfl
  | p :: ks, _, .cons r t => by
    cases r
    rw [refs_vals t]
    rfl
def rSetN (K : PySem.W.Frag) (P : Program) (w : World) : List V → Hp → VK → Prop := fun xs H Q => ∃ (l : Addr) (ks : Mem), xs = [V.ref l] ∧ SqL K H l (ks.map fun p => V.ref p.1) ∧ (∀ p ∈ ks, Dp K H (.ref p.1) p.2.data ∧ p.2.depth ≤ 8) ∧ ks.length < 64 ∧
  ∀ a L, H a = none → (∀ p ∈ L, p ∈ ks) → (∀ p ∈ ks, p.2 ∈ L.map (·.2)) → (L.map (·.2)).Nodup → Q (.ref a) (upd H a (SetO P w a L))
theorem cr_setN (hc : X.calm = true) (hu : X.A.units + 65 < cLine) : CallR X (.type "set") (rSetN X.K X.prog X.w) := by
  intro pins s σ H xs us Q I r h
  obtain ⟨l, ks, rfl, hl, hk, hf, q⟩ := h
  rw [Vals.ref1 r]
  obtain ⟨its, rv, pl, hz⟩ := I.list hl
  have hn : H s.heap.objs.size = none := I.hok.fresh (Nat.le_refl _)
  refine call_setK (P := X.prog) (w := X.w) ks (I.ok.hd hc) pl.isList (by simpa using refs_vals rv) (fun p hp => ⟨dp_key I _ _ _ (hk p hp).1 rfl, (hk p hp).2⟩) hf (by omega) fun h' tk L es ep t R g k => ?_
  refine ⟨.ref s.heap.objs.size, upd H s.heap.objs.size (SetO X.prog X.w s.heap.objs.size L), I.laid (t' := tk) k (Nat.le_refl _) (setO_new ⟨es, ep, t, R.ob, R.rows, R.tab, R.nd, R.led, R.room, R.few⟩), rfl, q _ L hn (fun p hp => ?_) (fun p hp => ?_) R.nd⟩
  · exact List.mem_of_mem_take (g.sub p hp)
  · exact g.all p (by rw [List.take_length]; exact hp)
/-! ### sorted -/
theorem each_perm {α β : Type} {R : α → β → Prop} {us vs : List α} (p : us.Perm vs) : ∀ {ds : List β}, PySem.W.EachIs R us ds → ∃ cs, cs.Perm ds ∧ PySem.W.EachIs R vs cs := by
  induction p with
  | nil => intro ds e; exact ⟨ds, List.Perm.refl _, e⟩
  | cons x _ ih =>
    intro ds e
    cases e with
    | cons h t =>
      obtain ⟨cs, pc, e2⟩ := ih t
      exact ⟨_ :: cs, pc.cons _, .cons h e2⟩
  | swap x y l =>
    intro ds e
    cases e with
    | cons h t =>
      cases t with
      | cons h2 t => exact ⟨_, List.Perm.swap _ _ _, .cons h2 (.cons h t)⟩
  | trans _ _ ih1 ih2 =>
    intro ds e
    obtain ⟨cs, pc, e2⟩ := ih1 e
    obtain ⟨cs2, pc2, e3⟩ := ih2 e2
    exact ⟨cs2, pc2.trans pc, e3⟩
/-- a value that stands for data -/
def StandsFor (K : PySem.W.Frag) (G : Hp) (u : Value) (d : PyData) : Prop := ∃ x : V, RelV x u ∧ Dp K G x d
theorem stands_all {K : PySem.W.Frag} {G : Hp} : ∀ {us : List Value} {ds : List PyData}, PySem.W.EachIs (StandsFor K G) us ds → ∃ ys, Vals ys us ∧ DpAll K G ys ds
  | _, _, .nil => ⟨[], .nil, .nil⟩
  | _, _, .cons ⟨x, r, d⟩ t => by
    obtain ⟨ys, r2, d2⟩ := stands_all t
    exact ⟨x :: ys, .cons r r2, .cons d d2⟩
theorem all_stands {G : Hp} (I : Inv X pins σ H s) (g : Same G H) : ∀ {ys : List V} {us : List Value} {ds : List PyData}, Vals ys us → DpAll X.K G ys ds → PySem.W.EachIs (fun u d => StandsFor X.K G u d ∧ ∃ as, Reads s.heap u d as) us ds
  | _, _, _, .nil, .nil => .nil
  | _, _, _, .cons r r2, .cons d d2 => .cons ⟨⟨_, r, d⟩, Dp.reads I _ _ _ (dp_mono g _ _ d) r⟩ (all_stands I g r2 d2)
/-- behind sorted: a new list -/
theorem sorted_new {G : Hp} {Q : VK} (I : Inv X pins σ H s) {bs : List PyData} {s' : Shared} {p : Addr} {out : List Value} {c : Nat} {cs : List PyData} (hL : bs.length ≤ sizeLine) (k : ∀ b o, s.heap.get? b = some o → s'.heap.get? b = some o) (g : s'.gens = s.gens) (ho : s'.os = s.os) (hp : s.heap.objs.size ≤ p)
    (hg : s'.heap.get? p = some (seqObj "list" out.toArray c)) (pm : cs.Perm bs) (e : PySem.W.EachIs (StandsFor X.K G) out (cs.mergeSort (PySem.W.dataLe false id)))
    (q : ∀ p ys, H p = none → DpAll X.K G ys (cs.mergeSort (PySem.W.dataLe false id)) → Q (.ref p) (upd H p (.lst ys))) : EP X pins σ Q (.ref p) s' := by
  obtain ⟨ys, rv, dv⟩ := stands_all e
  have hn : H p = none := I.hok.fresh hp
  have hlen : ys.length ≤ sizeLine := by
    rw [dpa_len dv, (List.mergeSort_perm _ _).length_eq, pm.length_eq]
    exact hL
  have J : Inv X pins σ (upd H p (.lst ys)) { s with heap := s'.heap, gens := s'.gens, drawn := s'.drawn, toks := s'.toks } :=
    I.call (ch := []) (Un.laid k hp hn) (I.hok.laid k hp ⟨hlen, out, c, rv, hg⟩) (by rw [g]; exact I.bare) (fun _ z => nomatch z)
  have e : s' = { s with heap := s'.heap, gens := s'.gens, drawn := s'.drawn, toks := s'.toks } := by
    cases s'
    cases s
    cases ho
    rfl
  rw [e]
  exact ⟨.ref p, _, J, rfl, q p ys hn dv⟩
abbrev SortOk (ds : List PyData) : Prop := PySem.W.AllAlike ds ∧ PySem.W.Sortable ds ∧ ds.length ≤ 100000 ∧ ∀ d ∈ ds, d.depth ≤ 50
def rSortedSet (K : PySem.W.Frag) (P : Program) (w : World) : List V → Hp → VK → Prop := fun vs H Q => ∃ (G : Hp) (a : Addr) (L : Mem), vs = [V.ref a] ∧ Same G H ∧ H a = some (SetO P w a L) ∧ (∀ p ∈ L, Dp K G (.ref p.1) p.2.data ∧ p.2.depth ≤ 8) ∧ SortOk (L.map fun p => p.2.data) ∧
  ∀ cs : List PyData, cs.Perm (L.map fun p => p.2.data) → ∀ p ys, H p = none → DpAll K G ys (cs.mergeSort (PySem.W.dataLe false id)) → Q (.ref p) (upd H p (.lst ys))
theorem cr_sortedSet (hc : X.calm = true) (hu : X.A.units + 65 < cLine) : CallR X (.builtin "sorted") (rSortedSet X.K X.prog X.w) := by
  intro pins s σ H vs us Q I r h
  obtain ⟨G, a, L, rfl, g, ha, hk, ⟨s1, s2, s3, s4⟩, q⟩ := h
  obtain ⟨es, ep, t, ho, h1, h2, h3, h4, h5, h6⟩ := ((I.hok a _ ha).1 : SetB X.prog X.w a L s.heap)
  have R : SetK X.prog X.w s.heap a L es ep t := ⟨ho, h1, h2, h3, fun p hp => ⟨dp_key I _ _ _ (dp_mono g _ _ (hk p hp).1) rfl, (hk p hp).2⟩, h4, h5, h6⟩
  rw [Vals.ref1 r]
  have hL : (L.map fun p => p.2.data).length ≤ sizeLine := Nat.le_trans s3 (by decide)
  refine sorted_collected (P := X.prog) (w := X.w) (bs := L.map fun p => p.2.data) (R := StandsFor X.K G) (fun s1 => Inv X pins σ H s1) (fun Q1 hQ1 => ?_) s1 s2 hL (fun d hd => by have := s4 d hd; omega)
    fun sa s' p out c cs Ia k1 g1 o1 hp hg pm e => sorted_new Ia hL k1 g1 o1 hp hg pm e fun p ys hn dv => q cs pm p ys hn dv
  obtain ⟨o, ho, hex, hd⟩ := R.ob
  have hfew := R.few
  have hsz := R.size
  refine collect_set (A := X.A.in1) (I.ok.hd hc) ⟨o, ho, hex.1, hd⟩ R.fits (by unfold scanBound; omega) R.tab.ris R.led fun sa vs k1 hz g1 o1 pm => ?_
  have Ia : Inv X pins σ H sa := I.call' (ch := []) o1 (Un.kept k1) (I.hok.kept k1) (by rw [g1]; exact I.bare) (fun _ z => nomatch z)
  have hes : es.toList.map (·.2) = L.map fun p => Value.ref p.1 := by
    rw [R.rows]
    unfold rowsK
    rw [List.map_map]
    rfl
  rw [hes] at pm
  have ev : PySem.W.EachIs (fun u d => StandsFor X.K G u d ∧ ∃ as, Reads sa.heap u d as) (L.map fun p => Value.ref p.1) (L.map fun p => p.2.data) := by
    have go : ∀ l : Mem, (∀ p ∈ l, Dp X.K G (.ref p.1) p.2.data) → PySem.W.EachIs (fun u d => StandsFor X.K G u d ∧ ∃ as, Reads sa.heap u d as) (l.map fun p => Value.ref p.1) (l.map fun p => p.2.data) := by
      intro l
      induction l with
      | nil => intro _; exact .nil
      | cons p l ih => intro hl; exact .cons ⟨⟨.ref p.1, rfl, hl p List.mem_cons_self⟩, Dp.reads Ia _ _ _ (dp_mono g _ _ (hl p List.mem_cons_self)) rfl⟩ (ih fun q hq => hl q (List.mem_cons_of_mem _ hq))
    exact go L fun p hp => (hk p hp).1
  obtain ⟨cs, pc, e⟩ := each_perm pm.symm ev
  exact hQ1 sa vs Ia ⟨cs, pc, e⟩
def rSortedTup (K : PySem.W.Frag) : List V → Hp → VK → Prop := fun vs H Q => ∃ (G : Hp) (a : Addr) (xs : List V) (ds : List PyData), vs = [V.ref a] ∧ Same G H ∧ SqT K G a xs ∧ DpAll K G xs ds ∧ SortOk ds ∧
  ∀ cs : List PyData, cs.Perm ds → ∀ p ys, H p = none → DpAll K G ys (cs.mergeSort (PySem.W.dataLe false id)) → Q (.ref p) (upd H p (.lst ys))
theorem cr_sortedTup (hu : X.A.units + 65 < cLine) : CallR X (.builtin "sorted") (rSortedTup X.K) := by
  intro pins s σ H vs us Q I r h
  obtain ⟨G, a, xs, ds, rfl, g, ha, hk, ⟨s1, s2, s3, s4⟩, q⟩ := h
  rw [Vals.ref1 r]
  have hL : ds.length ≤ sizeLine := Nat.le_trans s3 (by decide)
  obtain ⟨its, rv, ⟨o, ho, hc', n, hd⟩, hz⟩ := I.tuple (Same.sqT g ha)
  refine sorted_collected (P := X.prog) (w := X.w) (bs := ds) (R := StandsFor X.K G) (fun s1 => Inv X pins σ H s1) (fun Q1 hQ1 => ?_) s1 s2 hL (fun d hd => by have := s4 d hd; omega)
    fun sa s' p out c cs Ia k1 g1 o1 hp hg pm e => sorted_new Ia hL k1 g1 o1 hp hg pm e fun p ys hn dv => q cs pm p ys hn dv
  have hl := rv.length
  refine wpAny_collect_seq a (.inr rfl) ho hc' hd (fun h' hk' => ?_) (by rw [List.size_toArray]; omega)
  have Ia : Inv X pins σ H { s with heap := h' } := I.kept (t' := s.toks) hk'
  have e : its.toArray.toList = its := by simp
  rw [e]
  exact hQ1 _ its Ia ⟨ds, List.Perm.refl _, all_stands Ia g rv hk⟩
/-- of a list -/
def rSortedL (K : PySem.W.Frag) : List V → Hp → VK → Prop := fun vs H Q => ∃ (G : Hp) (a : Addr) (xs : List V) (ds : List PyData), vs = [V.ref a] ∧ Same G H ∧ SqL K G a xs ∧ DpAll K G xs ds ∧ SortOk ds ∧
  ∀ cs : List PyData, cs.Perm ds → ∀ p ys, H p = none → DpAll K G ys (cs.mergeSort (PySem.W.dataLe false id)) → Q (.ref p) (upd H p (.lst ys))
theorem cr_sortedL (hu : X.A.units + 65 < cLine) : CallR X (.builtin "sorted") (rSortedL X.K) := by
  intro pins s σ H vs us Q I r h
  obtain ⟨G, a, xs, ds, rfl, g, ha, hk, ⟨s1, s2, s3, s4⟩, q⟩ := h
  rw [Vals.ref1 r]
  have hL : ds.length ≤ sizeLine := Nat.le_trans s3 (by decide)
  obtain ⟨its, rv, ⟨o, n, ho, hc', _, hd⟩, hz⟩ := I.list (g.seq ha)
  refine sorted_collected (P := X.prog) (w := X.w) (bs := ds) (R := StandsFor X.K G) (fun s1 => Inv X pins σ H s1) (fun Q1 hQ1 => ?_) s1 s2 hL (fun d hd => by have := s4 d hd; omega)
    fun sa s' p out c cs Ia k1 g1 o1 hp hg pm e => sorted_new Ia hL k1 g1 o1 hp hg pm e fun p ys hn dv => q cs pm p ys hn dv
  have hl := rv.length
  refine wpAny_collect_seq a (.inl rfl) ho hc' hd (fun h' hk' => ?_) (by rw [List.size_toArray]; omega)
  have Ia : Inv X pins σ H { s with heap := h' } := I.kept (t' := s.toks) hk'
  have e : its.toArray.toList = its := by simp
  rw [e]
  exact hQ1 _ its Ia ⟨ds, List.Perm.refl _, all_stands Ia g rv hk⟩
end
end Mk
/-! ## MkOrd -/
set_option autoImplicit true
set_option Elab.async false
set_option linter.all false
set_option maxRecDepth 100000
set_option maxHeartbeats 4000000
namespace Mk
open PySem PySem.Spec PyProof.Rows L2 MkM PySem.W
/-! ### the order of texts; sorted rows -/
theorem nlt_irr (x : List Nat) : ¬ x < x := fun h => List.lt_irrefl x h
def OStr : MkM.Ord Str where
  lt x y := decide (x.cps.toList < y.cps.toList)
  irr a := decide_eq_false (nlt_irr _)
  tr a b c h k := decide_eq_true (List.lt_trans (of_decide_eq_true h) (of_decide_eq_true k))
  tot a b h k := str_of_cps (List.le_antisymm (List.not_lt.mp (of_decide_eq_false k)) (List.not_lt.mp (of_decide_eq_false h)))
theorem dataLt_strs : ∀ xs ys : List Str, rowLt (xs.map .str) (ys.map .str) = lex OStr xs ys
  | [], [] => by
    have e : rowLt [] [] = false := lex_irrefl _
    exact e
  | [], y :: ys => by
    have e : rowLt [] (PyData.str y :: ys.map .str) = true := by
      unfold rowLt
      rw [toks_all_cons]
      simp only [keyToksAll]
      rw [lex_diff (O := itemOrd) (by simp)]
      rfl
    exact e
  | x :: xs, [] => by
    have e : rowLt (PyData.str x :: xs.map .str) [] = false := by
      unfold rowLt
      rw [toks_all_cons]
      simp only [keyToksAll]
      rw [lex_diff (O := itemOrd) (by simp)]
      rfl
    exact e
  | x :: xs, y :: ys => by
    show rowLt (PyData.str x :: xs.map .str) (PyData.str y :: ys.map .str) = _
    unfold rowLt
    rw [dataLt_cons (by simp [alike]), dataLt_str]
    show _ = if x = y then lex OStr xs ys else decide (x.cps.toList < y.cps.toList)
    by_cases e : x = y
    · rw [if_pos e, if_pos (by subst e; simp [PyData.eqv])]
      exact dataLt_strs xs ys
    · rw [if_neg e, if_neg (by simp [PyData.eqv, e])]
def wdT (l : List Str) : PyData := .tuple (l.map .str)
def pairD (l : List Str) : PyData := .tuple [.int (l.length : Nat), wdT l]
def pairK (l : List Str) : NestedKey := .tup [.num (l.length : Nat), .tup (l.map .text)]
theorem alike_strs : ∀ xs ys : List Str, alikeAll (xs.map .str) (ys.map .str) = true
  | [], _ => by simp [alikeAll]
  | _ :: _, [] => by simp [alikeAll]
  | x :: xs, y :: ys => by
    show alikeAll (PyData.str x :: xs.map .str) (PyData.str y :: ys.map .str) = true
    rw [alikeAll, alike_strs xs ys]
    simp [alike]
theorem alike_wd (l m : List Str) : alike (wdT l) (wdT m) = true := by
  show alike (.tuple _) (.tuple _) = true
  rw [alike]
  exact alike_strs l m
theorem alike_pair (l m : List Str) : alike (pairD l) (pairD m) = true := by
  show alike (.tuple [_, _]) (.tuple [_, _]) = true
  rw [alike, alikeAll, alikeAll, alike_wd]
  simp [alike, alikeAll]
theorem dataLt_pairD (l m : List Str) : dataLt (pairD l) (pairD m) = wlt OStr l m := by
  show dataLt (.tuple [_, _]) (.tuple [_, _]) = _
  rw [dataLt_pair (by simp [alike]) (alike_wd l m), dataLt_int]
  have e2 : (if PyData.eqv (wdT l) (wdT m) = true then false else dataLt (wdT l) (wdT m)) = lex OStr l m := by
    have e3 : dataLt (wdT l) (wdT m) = lex OStr l m := by
      rw [← dataLt_strs]
      exact dataLt_tuple _ _
    by_cases e : PyData.eqv (wdT l) (wdT m) = true
    · rw [if_pos e, ← e3]
      unfold dataLt
      rw [(toks_eqv _ _ (alike_wd l m)).1 e]
      exact (lex_irrefl _).symm
    · rw [if_neg e, e3]
  rw [e2]
  unfold wlt
  by_cases h : l.length = m.length
  · rw [if_pos (by simp [PyData.eqv, h]), decide_eq_true h, h]
    simp
  · rw [if_neg (by simp [PyData.eqv]; omega), decide_eq_false h, Bool.false_and, Bool.or_false]
    exact decide_eq_decide.mpr (by omega)
theorem data_texts : ∀ l : List Str, NestedKey.datas (l.map .text) = l.map .str
  | [] => rfl
  | x :: l => by
    show NestedKey.datas (.text x :: l.map .text) = _
    rw [NestedKey.datas, data_texts l, NestedKey.data]
    rfl
theorem depth_texts : ∀ l : List Str, NestedKey.depthAll (l.map .text) = 0
  | [] => rfl
  | x :: l => by
    show NestedKey.depthAll (.text x :: l.map .text) = _
    rw [NestedKey.depthAll, depth_texts l, NestedKey.depth]
    rfl
theorem pairK_data (l : List Str) : (pairK l).data = pairD l := by
  show NestedKey.data (.tup [_, .tup _]) = _
  simp only [NestedKey.data, NestedKey.datas, data_texts]
  rfl
theorem pairK_depth (l : List Str) : (pairK l).depth ≤ 8 := by
  show NestedKey.depth (.tup [_, .tup _]) ≤ 8
  simp only [NestedKey.depth, NestedKey.depthAll, depth_texts]
  omega
theorem texts_inj : ∀ {l m : List Str}, l.map NestedKey.text = m.map .text → l = m
  | [], [], _ => rfl
  | [], _ :: _, h => by simp at h
  | _ :: _, [], h => by simp at h
  | x :: l, y :: m, h => by
    simp only [List.map_cons, List.cons.injEq] at h
    obtain ⟨h1, h2⟩ := h
    injection h1 with h1
    rw [h1, texts_inj h2]
theorem pairK_inj {l m : List Str} (h : pairK l = pairK m) : l = m := by
  injection h with h
  simp only [List.cons.injEq, NestedKey.tup.injEq, and_true] at h
  exact texts_inj h.2
/-- what sorted gives of a set of (size, row) -/
theorem sorted_pairs {ms ls : List (List Str)} (hn : ms.Nodup) (hm : ∀ x, x ∈ ms ↔ x ∈ ls) : (ms.map pairD).mergeSort (dataLe false id) = (inOrder OStr ls).map pairD := by
  have e : (ms.map pairD).mergeSort (dataLe false id) = (ms.mergeSort fun a b => !wlt OStr b a).map pairD := by
    refine (List.map_mergeSort fun a _ b _ => ?_).symm
    show _ = (!dataLt (pairD b) (pairD a))
    rw [dataLt_pairD]
  rw [e]
  congr 1
  have hp := List.mergeSort_perm ms fun a b => !wlt OStr b a
  refine inOrder_unique OStr ?_ fun x => (hp.mem_iff).trans (hm x)
  have hs : (ms.mergeSort fun a b => !wlt OStr b a).Pairwise fun a b => (!wlt OStr b a) = true := by
    refine List.pairwise_mergeSort (fun a b c h1 h2 => ?_) (fun a b => ?_) ms
    · rw [Bool.not_eq_true'] at h1 h2 ⊢
      cases hca : wlt OStr c a with
      | false => rfl
      | true =>
        cases hab : wlt OStr a b with
        | true => rw [wlt_tr OStr hca hab] at h2; cases h2
        | false =>
          have : a = b := wlt_tot OStr hab h1
          subst this
          rw [hca] at h2
          cases h2
    · cases hba : wlt OStr b a with
      | false => rfl
      | true =>
        cases hab : wlt OStr a b with
        | false => rfl
        | true =>
          have := wlt_tr OStr hab hba
          rw [wlt_irr] at this
          cases this
  have hn' : (ms.mergeSort fun a b => !wlt OStr b a).Nodup := hp.nodup_iff.mpr hn
  have both := hs.and hn'
  refine both.imp fun {a b} ⟨h1, h2⟩ => ?_
  rw [Bool.not_eq_true'] at h1
  cases hab : wlt OStr a b with
  | true => rfl
  | false => exact absurd (wlt_tot OStr hab h1) h2
end Mk
/-! ## MkSort -/
set_option autoImplicit true
set_option Elab.async false
set_option linter.all false
set_option maxRecDepth 100000
set_option maxHeartbeats 4000000
namespace Mk
open PySem PySem.Spec PyProof.Rows L2 MkM PySem.W MkS
theorem pre_map {α β : Type} {f : α → β} : ∀ {l : List β}, (∀ b ∈ l, ∃ a, b = f a) → ∃ m : List α, l = m.map f
  | [], _ => ⟨[], rfl⟩
  | b :: l, h => by
    obtain ⟨a, e⟩ := h b List.mem_cons_self
    obtain ⟨m, e2⟩ := pre_map fun x hx => h x (List.mem_cons_of_mem _ hx)
    exact ⟨a :: m, by rw [e, e2]; rfl⟩
theorem strs_inj : ∀ {l m : List Str}, l.map PyData.str = m.map .str → l = m
  | [], [], _ => rfl
  | [], _ :: _, h => by simp at h
  | _ :: _, [], h => by simp at h
  | x :: l, y :: m, h => by
    simp only [List.map_cons, List.cons.injEq] at h
    obtain ⟨h1, h2⟩ := h
    injection h1 with h1
    rw [h1, strs_inj h2]
theorem wd_inj {l m : List Str} (h : wd l = wd m) : l = m := by
  injection h with h
  exact strs_inj h
theorem pairD_inj {l m : List Str} (h : pairD l = pairD m) : l = m := by
  injection h with h
  simp only [List.cons.injEq, and_true] at h
  exact wd_inj h.2
theorem keys_of {K : PySem.W.Frag} {G : Hp} : ∀ {ls : List Wd} {xs : List V}, DpAll K G xs (ls.map pairD) → ∃ ks : Mem, xs = ks.map (fun p => V.ref p.1) ∧ ks.map (·.2) = ls.map pairK ∧ ∀ p ∈ ks, Dp K G (.ref p.1) p.2.data ∧ p.2.depth ≤ 8
  | [], _, h => by cases h; exact ⟨[], rfl, rfl, fun _ z => nomatch z⟩
  | l :: ls, _, h => by
    cases h with
    | cons a t =>
      obtain ⟨ks, rfl, e, k⟩ := keys_of (ls := ls) t
      obtain ⟨p, ys, rfl, s1, s2⟩ := dp_tup (ds := [_, _]) a
      refine ⟨(p, pairK l) :: ks, rfl, by rw [List.map_cons, e]; rfl, fun q hq => ?_⟩
      rcases List.mem_cons.mp hq with rfl | hq
      · exact ⟨by rw [pairK_data]; exact a, pairK_depth l⟩
      · exact k q hq
theorem pair_depth (l : List Str) : (pairD l).depth ≤ 50 := by
  have e : ∀ l : List Str, PyData.depthAll (l.map .str) ≤ 1 := by
    intro l
    induction l with
    | nil => simp [PyData.depthAll]
    | cons x l ih =>
      rw [List.map_cons]
      simp only [PyData.depthAll, PyData.depth]
      omega
  have := e l
  show (PyData.tuple [.int _, .tuple (l.map .str)]).depth ≤ 50
  simp only [PyData.depth, PyData.depthAll]
  omega
section
variable {c : Ctx} {P : Program} {w : World} {K : PySem.W.Frag} {σ : St} {G G' H : Hp} {te ta tb tl : TE} {tt tu : TT} {φ ψ χ : PyData → Prop} {d e : PyData} {ds es : List PyData} {v : V}
theorem perm_pairs {cs : List PyData} {ms : List Wd} (pm : cs.Perm (ms.map pairD)) (hn : ms.Nodup) : ∃ ms' : List Wd, cs = ms'.map pairD ∧ ms'.Nodup ∧ ∀ x, x ∈ ms' ↔ x ∈ ms := by
  obtain ⟨ms', rfl⟩ := pre_map (f := pairD) (l := cs) fun b hb => by
    obtain ⟨l, _, e⟩ := List.mem_map.mp (pm.mem_iff.mp hb)
    exact ⟨l, e.symm⟩
  have nd : (ms.map pairD).Nodup := List.pairwise_map.mpr (hn.imp fun h e => h (pairD_inj e))
  have nd2 := pm.nodup_iff.mpr nd
  refine ⟨ms', rfl, (List.pairwise_map.mp nd2).imp fun h e => h (by rw [e]), fun x => ?_⟩
  have := pm.mem_iff (a := pairD x)
  rw [List.mem_map, List.mem_map] at this
  refine ⟨fun h => ?_, fun h => ?_⟩
  · obtain ⟨y, hy, e⟩ := this.mp ⟨x, h, rfl⟩
    rw [← pairD_inj e]
    exact hy
  · obtain ⟨y, hy, e⟩ := this.mpr ⟨x, h, rfl⟩
    rw [← pairD_inj e]
    exact hy
/-- sorted(set(pairs)) -/
theorem ev_sortedSet {ls : List Wd} (h : Ev c K te σ G (is (.list (ls.map pairD)))) (hl : ls.length < 64) :
    Ev c K (tCB (rSortedSet K P w) (tCons (tCB (rSetN K P w) (tCons te tNil)) tNil)) σ G (is (.list ((inOrder OStr ls).map pairD))) :=
  fun G0 H a b j Q q => h G0 H a b j _ fun v d G1 H1 g1 j1 d1 p1 => by
    subst p1
    obtain ⟨l, xs, rfl, hs, hd⟩ := dp_list d1
    obtain ⟨ks, rfl, he, hk⟩ := keys_of hd
    have hkl : ks.length = ls.length := by
      have := congrArg List.length he
      rwa [List.length_map, List.length_map] at this
    refine ⟨l, ks, rfl, g1.s.seq hs, fun p hp => ⟨dp_mono g1.s _ _ (hk p hp).1, (hk p hp).2⟩, by omega, fun s L hn h1 h2 hnd => ?_⟩
    obtain ⟨ms, hms⟩ := pre_map (f := pairK) (l := L.map (·.2)) fun k hk' => by
      obtain ⟨p, hp, rfl⟩ := List.mem_map.mp hk'
      have : p.2 ∈ ks.map (·.2) := List.mem_map.mpr ⟨p, h1 p hp, rfl⟩
      rw [he] at this
      obtain ⟨l', _, e⟩ := List.mem_map.mp this
      exact ⟨l', e.symm⟩
    have hdat : (L.map fun p => p.2.data) = ms.map pairD := by
      rw [show (L.map fun p => p.2.data) = (L.map (·.2)).map NestedKey.data by rw [List.map_map]; rfl, hms, List.map_map]
      exact List.map_congr_left fun x _ => pairK_data x
    rw [hms] at hnd
    have msn : ms.Nodup := (List.pairwise_map.mp hnd).imp fun h e => h (by rw [e])
    have mem : ∀ x, x ∈ ms ↔ x ∈ ls := by
      intro x
      constructor
      · intro hx
        have : pairK x ∈ L.map (·.2) := by rw [hms]; exact List.mem_map.mpr ⟨x, hx, rfl⟩
        obtain ⟨p, hp, e⟩ := List.mem_map.mp this
        have : p.2 ∈ ks.map (·.2) := List.mem_map.mpr ⟨p, h1 p hp, rfl⟩
        rw [he] at this
        obtain ⟨y, hy, e2⟩ := List.mem_map.mp this
        rw [← pairK_inj (e2.trans e)]
        exact hy
      · intro hx
        have : pairK x ∈ ks.map (·.2) := by rw [he]; exact List.mem_map.mpr ⟨x, hx, rfl⟩
        obtain ⟨p, hp, e⟩ := List.mem_map.mp this
        have := h2 p hp
        rw [hms] at this
        obtain ⟨y, hy, e2⟩ := List.mem_map.mp this
        rw [← pairK_inj (e2.trans e)]
        exact hy
    have hlen : ms.length < 64 := by
      have hz : L.length ≤ ks.length := by
        have hz2 : (L.map (·.2)).length ≤ (ks.map (·.2)).length := List.Nodup.length_le_of_subset (by rw [hms]; exact hnd) (fun k hk' => by
          obtain ⟨p, hp, rfl⟩ := List.mem_map.mp hk'
          exact List.mem_map.mpr ⟨p, h1 p hp, rfl⟩)
        rwa [List.length_map, List.length_map] at hz2
      have : L.length = ms.length := by
        have := congrArg List.length hms
        rwa [List.length_map, List.length_map] at this
      omega
    refine ⟨G1, s, L, rfl, g1.s.trans (same_new hn), upd_same, fun p hp => hk p (h1 p hp), ?_, fun cs pm p ys hp dy => ?_⟩
    · rw [hdat]
      refine ⟨fun d hd d' hd' => ?_, .inl fun d hd => ?_, by rw [List.length_map]; omega, fun d hd => ?_⟩
      · obtain ⟨x, _, rfl⟩ := List.mem_map.mp hd
        obtain ⟨y, _, rfl⟩ := List.mem_map.mp hd'
        exact alike_pair x y
      · obtain ⟨x, _, rfl⟩ := List.mem_map.mp hd
        exact ⟨_, _, rfl⟩
      · obtain ⟨x, _, rfl⟩ := List.mem_map.mp hd
        exact pair_depth x
    · rw [hdat] at pm
      obtain ⟨ms', rfl, nd', me'⟩ := perm_pairs pm msn
      rw [sorted_pairs nd' fun x => (me' x).trans (mem x)] at dy
      have gs : Grow c.B G1 H1 G1 (upd H1 s (SetO P w s L)) := (Grow.refl g1.s).mut (.inl hn) (g1.s.free hn)
      exact q _ _ _ _ ((g1.trans gs).trans (Grow.new gs.s hp)) (c.new (c.new j1 hn) hp) (.lst (.inl (.inl upd_same)) (dpa_mono (same_new (gs.s.free hp)) _ _ dy)) rfl
end
end Mk
/-! ## MkRul -/
set_option autoImplicit true
set_option Elab.async false
set_option linter.all false
set_option maxRecDepth 100000
set_option maxHeartbeats 4000000
/-! The rules whose meaning names the record X.K, with that record told apart (a comprehension's block has its own X). -/
namespace Mk
open PySem PySem.Spec PyProof.Rows L2
section
variable {X : Cx} {K : PySem.W.Frag} {P : Program} {w : World}
theorem k_setN (hK : X.K = K) (hP : X.prog = P) (hw : X.w = w) (hc : X.calm = true) (hu : X.A.units + 65 < cLine) : CallR X (.type "set") (rSetN K P w) := by subst hK hP hw; exact cr_setN hc hu
theorem k_sortedSet (hK : X.K = K) (hP : X.prog = P) (hw : X.w = w) (hc : X.calm = true) (hu : X.A.units + 65 < cLine) : CallR X (.builtin "sorted") (rSortedSet K P w) := by subst hK hP hw; exact cr_sortedSet hc hu
theorem k_sortedTup (hK : X.K = K) (hu : X.A.units + 65 < cLine) : CallR X (.builtin "sorted") (rSortedTup K) := by subst hK; exact cr_sortedTup hu
theorem k_eqD (hK : X.K = K) (hu : X.A.units + 64 < cLine) : OpR X (compareOp .Eq) (rEqD K) := by subst hK; exact op_eqD hu
theorem k_neD (hK : X.K = K) (hu : X.A.units + 64 < cLine) : OpR X (compareOp .NotEq) (rNeD K) := by subst hK; exact op_neD hu
theorem k_inD (hK : X.K = K) (hu : X.A.units + 65 < cLine) : OpR X (compareOp .In) (rInD K) := by subst hK; exact op_inD hu
theorem k_notInD (hK : X.K = K) (hu : X.A.units + 65 < cLine) : OpR X (compareOp .NotIn) (rNotInD K) := by subst hK; exact op_notInD hu
theorem k_inT (hK : X.K = K) (hu : X.A.units + 65 < cLine) : OpR X (compareOp .In) (rInT K) := by subst hK; exact op_inT hu
theorem k_notInT (hK : X.K = K) (hu : X.A.units + 65 < cLine) : OpR X (compareOp .NotIn) (rNotInT K) := by subst hK; exact op_notInT hu
theorem k_in_seq (hK : X.K = K) : OpR X (compareOp .In) (rIn K false) := by subst hK; exact op_in_seq
theorem k_notIn_seq (hK : X.K = K) : OpR X (compareOp .NotIn) (rIn K true) := by subst hK; exact op_notIn_seq
theorem k_catA (hK : X.K = K) : OpR X (binaryOp .Add) (rCatA K) := by subst hK; exact op_catA
theorem k_slT (hK : X.K = K) : SlR X (rSlA K) := by subst hK; exact sl_tupA
theorem k_slL (hK : X.K = K) : SlR X (rSlL K) := by subst hK; exact sl_list
variable {tg l e o : Expr} {es elts : List Expr} {tl te ta to : TE} {t : TA} {pos p p1 p2 p3 apos cpos : Pos} {f name : Str}
theorem k_fld (hK : X.K = K) (he : PE X e ta) (hb : attributeBase e f X.env (eval e X.env) = eval e X.env) : PE X (.Attribute e f pos) (tFld K ta f) := by subst hK; exact pe_fld he hb
theorem k_star (hK : X.K = K) (he : PE X e te) (hr : PA X es t) (hs : starEach (.Starred e p :: es) X.env = (true, eval e X.env) :: starEach es X.env := by rfl) : PA X (.Starred e p :: es) (StX.tStar K te t) := by subst hK; exact StX.pa_star he hr hs
theorem k_revL {k : Nat} (hK : X.K = K) (he : PE X e te) : PE X (.Subscript e (.Slice none none (some (.UnaryOp .USub (.Constant (.int 1) k p1) p2)) p3) pos) (tRevL K te) := by subst hK; exact pe_revL he
theorem k_bm {T id : String} {r : V → List V → Hp → VK → Prop} (hK : X.K = K) (pa : PlainAttrs T) (slot : Slot T name id) (hty : typeOf (.builtin id) = pure (.type "method_descriptor")) (hm : MtR X id r) (ho : PE X o to) (ha : PA X (e :: es) t)
    (hbase : attributeBase o name X.env (eval o X.env) = eval o X.env := by rfl)
    (hfew : ((backTo cpos (starEach (e :: es) X.env)).all (fun x => !x.1) && (backToKw cpos (keywordEach [] X.env)).all (fun x => x.1.isSome)
      && decide ((e :: es).length + ([] : List Keyword).length + (if ([] : List Keyword).isEmpty then 0 else 1) < 30)) = true := by rfl)
    (hline : (apos.endLine == cpos.line) = true := by rfl) (hs : starEach (e :: es) X.env = (false, eval e X.env) :: starEach es X.env := by rfl) (hplain : (backTo cpos (starEach es X.env)).any (·.1) = false := by rfl) :
    PE X (.Call (.Attribute o name apos) (e :: es) [] cpos) (tBM K T r to t) := by subst hK; exact pe_bm pa slot hty hm ho ha hbase hfew hline hs hplain
theorem k_zip {e2 : Expr} {kk : Nat} {tpos : Pos} (hK : X.K = K) (hg : Gl X "zip") (hm : X.mg "zip" = none) (ha : PA X [e, e2] t)
    (hs : starEach [e, e2] X.env = (false, eval e X.env) :: starEach [e2] X.env := by rfl) (hpl : (backTo pos (starEach [e2] X.env)).any (·.1) = false := by rfl) :
    PI X (.Tuple elts kk tpos) (.Call (.Name "zip" p) [e, e2] [] pos) (RZ.iZipA K t) := by subst hK; exact RZ.pi_zipA hg hm ha hs hpl
theorem k_enum {kk : Nat} {tpos : Pos} (hK : X.K = K) (hg : Gl X "enumerate") (hm : X.mg "enumerate" = none) (ha : PA X [e] t) (hs : starEach [e] X.env = [(false, eval e X.env)] := by rfl) :
    PI X (.Tuple elts kk tpos) (.Call (.Name "enumerate" p) [e] [] pos) (iEnum K t) := by subst hK; exact pi_enum hg hm ha hs
end
/-! ### two lists, one behind the other -/
section
variable {X : Cx}
def rCatS (K : PySem.W.Frag) : R2 := fun x y H Q => ∃ l b xs zs, x = .ref l ∧ y = .ref b ∧ SqL K H l xs ∧ SqL K H b zs ∧ xs.length + zs.length ≤ sizeLine ∧ ∀ p, H p = none → Q (.ref p) (upd H p (.lst (xs ++ zs)))
theorem op_catS : OpR X (binaryOp .Add) (rCatS X.K) := by
  intro pins s σ H x y v u Q I rx ry h
  obtain ⟨l, b, xs, zs, rfl, rfl, hH, hB, hz, q⟩ := h
  cases rx
  cases ry
  obtain ⟨its, r, ⟨⟨cls, dd, data, sl⟩, n, ho, hc, _, hd⟩, _⟩ := I.list hH
  obtain ⟨its2, r2, ⟨⟨cls2, dd2, data2, sl2⟩, n2, ho2, hc2, _, hd2⟩, _⟩ := I.list hB
  simp only at hc hd hc2 hd2
  subst hc hd hc2 hd2
  have hl1 := r.length
  have hl2 := r2.length
  refine concat_meets ⟨_, ho, rfl⟩ ⟨_, ho2, rfl⟩ noFill_list_add seq_list_add PySem.F.slot_list_add PySem.F.entry_list_add (PySem.F.args_list_add_2 _ _) (list_addW l b its.toArray its2.toArray n n2 dd dd2 sl sl2 (by rw [List.size_toArray, List.size_toArray]; omega)) ⟨ho, ho2, ?_⟩
  have ea : its.toArray ++ its2.toArray = (its ++ its2).toArray := by simp
  rw [ea]
  exact ⟨.ref _, _, I.lnew (t' := s.toks) (r.append r2) (by rw [List.length_append]; omega), rfl, q _ I.fresh⟩
theorem k_cat {K : PySem.W.Frag} (hK : X.K = K) : OpR X (binaryOp .Add) (rCatS K) := by subst hK; exact op_catS
end
end Mk
/-! ## MkEq -/
set_option autoImplicit true
set_option Elab.async false
set_option linter.all false
set_option maxRecDepth 100000
set_option maxHeartbeats 4000000
/-! ==, != and in, of data without dicts: nothing is asked of the texts within. -/
namespace Mk
open PySem PySem.Spec PyProof.Rows L2 PySem.SeqAt
section
variable {X : Cx} {K : PySem.W.Frag}
abbrev fine (d : PyData) : Prop := d.plain = true ∧ d.depth ≤ 60
def rEqP (K : PySem.W.Frag) : R2 := fun x y H Q => ∃ d e, Dp K H x d ∧ Dp K H y e ∧ fine d ∧ e.plain = true ∧ Q (.bl (PyData.eqv d e)) H
def rNeP (K : PySem.W.Frag) : R2 := fun x y H Q => ∃ d e, Dp K H x d ∧ Dp K H y e ∧ fine d ∧ e.plain = true ∧ Q (.bl (!PyData.eqv d e)) H
def rInP (K : PySem.W.Frag) : R2 := fun x y H Q => ∃ d t ds, Dp K H x d ∧ Dp K H y (sqD t ds) ∧ fine d ∧ PyData.plainAll ds = true ∧ Q (.bl (ds.any fun z => PyData.eqv z d)) H
def rNiP (K : PySem.W.Frag) : R2 := fun x y H Q => ∃ d t ds, Dp K H x d ∧ Dp K H y (sqD t ds) ∧ fine d ∧ PyData.plainAll ds = true ∧ Q (.bl (!ds.any fun z => PyData.eqv z d)) H
theorem k_eqP (hK : X.K = K) (hu : X.A.units + 65 < cLine) : OpR X (compareOp .Eq) (rEqP K) := by
  subst hK
  intro pins s σ H x y v u Q I rx ry h
  obtain ⟨d, e, hd, he, sd, se, q⟩ := h
  obtain ⟨as, r1⟩ := Dp.reads I d x v hd rx
  obtain ⟨bs, r2⟩ := Dp.reads I e y u he ry
  exact eq_plain r1 r2 sd.1 se (by have := sd.2; have := Nat.min_le_left d.depth e.depth; omega) ⟨.bl _, H, I, rfl, q⟩
theorem k_neP (hK : X.K = K) (hu : X.A.units + 65 < cLine) : OpR X (compareOp .NotEq) (rNeP K) := by
  subst hK
  intro pins s σ H x y v u Q I rx ry h
  obtain ⟨d, e, hd, he, sd, se, q⟩ := h
  obtain ⟨as, r1⟩ := Dp.reads I d x v hd rx
  obtain ⟨bs, r2⟩ := Dp.reads I e y u he ry
  exact ne_plain r1 r2 sd.1 se (by have := sd.2; have := Nat.min_le_left d.depth e.depth; omega) ⟨.bl _, H, I, rfl, q⟩
theorem k_inP (hK : X.K = K) (hu : X.A.units + 65 < cLine) : OpR X (compareOp .In) (rInP K) := by
  subst hK
  intro pins s σ H x y v u Q I rx ry h
  obtain ⟨d, t, ds, hd, he, sd, se, q⟩ := h
  obtain ⟨as, r1⟩ := Dp.reads I d x v hd rx
  obtain ⟨bs, r2⟩ := Dp.reads I (sqD t ds) y u he ry
  have hz : X.A.units + 1 + min (PyData.depthAll ds) d.depth < cLine := by have := sd.2; have := Nat.min_le_right (PyData.depthAll ds) d.depth; omega
  cases t with
  | true => exact in_tuple_data r2 r1 se sd.1 hz ⟨.bl _, H, I, rfl, q⟩
  | false => exact in_list_data r2 r1 se sd.1 hz ⟨.bl _, H, I, rfl, q⟩
theorem k_niP (hK : X.K = K) (hu : X.A.units + 65 < cLine) : OpR X (compareOp .NotIn) (rNiP K) := by
  subst hK
  intro pins s σ H x y v u Q I rx ry h
  obtain ⟨d, t, ds, hd, he, sd, se, q⟩ := h
  obtain ⟨as, r1⟩ := Dp.reads I d x v hd rx
  obtain ⟨bs, r2⟩ := Dp.reads I (sqD t ds) y u he ry
  have hz : X.A.units + 1 + min (PyData.depthAll ds) d.depth < cLine := by have := sd.2; have := Nat.min_le_right (PyData.depthAll ds) d.depth; omega
  cases t with
  | true => exact notIn_tuple_data r2 r1 se sd.1 hz ⟨.bl _, H, I, rfl, q⟩
  | false => exact notIn_list_data r2 r1 se sd.1 hz ⟨.bl _, H, I, rfl, q⟩
end
/-! ### ways to lay things as data -/
/-- fine at depth n, and == says whether they are the same -/
structure Enc {α : Type} (enc : α → PyData) (n : Nat) : Prop where
  pl : ∀ x, (enc x).plain = true
  dp : ∀ x, (enc x).depth ≤ n
  eq : ∀ x y, PyData.eqv (enc x) (enc y) = true ↔ x = y
theorem Enc.fine {α : Type} {enc : α → PyData} {n : Nat} (h : Enc enc n) (hn : n ≤ 60) (x : α) : fine (enc x) := ⟨h.pl x, Nat.le_trans (h.dp x) hn⟩
theorem enc_str : Enc PyData.str 0 := ⟨fun _ => rfl, fun _ => by simp [PyData.depth], fun x y => by simp [PyData.eqv]⟩
theorem enc_bool : Enc PyData.bool 0 := ⟨fun _ => rfl, fun _ => by simp [PyData.depth], fun x y => by cases x <;> cases y <;> simp [PyData.eqv]⟩
theorem enc_int : Enc PyData.int 0 := ⟨fun _ => rfl, fun _ => by simp [PyData.depth], fun x y => by simp [PyData.eqv]⟩
theorem enc_nat : Enc (fun n : Nat => PyData.int (n : Int)) 0 := ⟨fun _ => rfl, fun _ => by simp [PyData.depth], fun x y => by simp only [PyData.eqv, beq_iff_eq]; omega⟩
section
variable {α β : Type} {enc : α → PyData} {enc2 : β → PyData} {n m : Nat}
theorem plainAll_map (h : Enc enc n) : ∀ l : List α, PyData.plainAll (l.map enc) = true
  | [] => rfl
  | x :: l => by
    rw [List.map_cons]
    simp only [PyData.plainAll, h.pl x, plainAll_map h l, Bool.and_self]
theorem depthAll_map (h : Enc enc n) : ∀ l : List α, PyData.depthAll (l.map enc) ≤ n
  | [] => Nat.zero_le _
  | x :: l => by
    rw [List.map_cons]
    simp only [PyData.depthAll]
    exact Nat.max_le.mpr ⟨h.dp x, depthAll_map h l⟩
theorem eqvAll_map (h : Enc enc n) : ∀ l k : List α, PyData.eqvAll (l.map enc) (k.map enc) = true ↔ l = k
  | [], [] => by simp [PyData.eqvAll]
  | [], y :: k => by simp [PyData.eqvAll]
  | x :: l, [] => by simp [PyData.eqvAll]
  | x :: l, y :: k => by
    rw [List.map_cons, List.map_cons, PySem.W.eqv_all_cons, Bool.and_eq_true, h.eq, eqvAll_map h l k, List.cons.injEq]
theorem enc_tup (h : Enc enc n) : Enc (fun l : List α => PyData.tuple (l.map enc)) (n + 1) where
  pl l := by simp only [PyData.plain]; exact plainAll_map h l
  dp l := by simp only [PyData.depth]; exact Nat.succ_le_succ (depthAll_map h l)
  eq l k := by
    simp only [PyData.eqv]
    exact eqvAll_map h l k
theorem enc_lst (h : Enc enc n) : Enc (fun l : List α => PyData.list (l.map enc)) (n + 1) where
  pl l := by simp only [PyData.plain]; exact plainAll_map h l
  dp l := by simp only [PyData.depth]; exact Nat.succ_le_succ (depthAll_map h l)
  eq l k := by
    simp only [PyData.eqv]
    exact eqvAll_map h l k
theorem enc_pair (h : Enc enc n) (h2 : Enc enc2 m) : Enc (fun p : α × β => PyData.tuple [enc p.1, enc2 p.2]) (max n m + 1) where
  pl p := by simp only [PyData.plain, PyData.plainAll, h.pl, h2.pl, Bool.and_self]
  dp p := by
    simp only [PyData.depth, PyData.depthAll]
    have a := h.dp p.1
    have b := h2.dp p.2
    omega
  eq p q := by
    simp only [PyData.eqv, PyData.eqvAll, Bool.and_eq_true, h.eq, h2.eq, and_true]
    rw [Prod.ext_iff]
theorem any_eqv [DecidableEq α] (h : Enc enc n) (l : List α) (x : α) : ((l.map enc).any fun z => PyData.eqv z (enc x)) = decide (x ∈ l) := by
  rw [List.any_map, Bool.eq_iff_iff, List.any_eq_true, decide_eq_true_iff]
  constructor
  · rintro ⟨y, hy, e⟩
    rw [← (h.eq y x).mp e]
    exact hy
  · exact fun hx => ⟨x, hx, (h.eq x x).mpr rfl⟩
theorem eqv_dec [DecidableEq α] (h : Enc enc n) (x y : α) : PyData.eqv (enc x) (enc y) = decide (x = y) := by
  rw [Bool.eq_iff_iff, h.eq, decide_eq_true_iff]
end
section
variable {c : Ctx} {K : PySem.W.Frag} {σ : St} {G : Hp} {ta tb : TE} {d e : PyData} {ds : List PyData} {α : Type} {enc : α → PyData} {n : Nat} [DecidableEq α]
theorem ev_eqP (ha : Ev c K ta σ G (is d)) (hb : Ev c K tb σ G (is e)) (gd : fine d) (ge : e.plain = true) : Ev c K (tOp (rEqP K) ta tb) σ G (is (.bool (PyData.eqv d e))) :=
  ev_op ha hb fun G1 H1 x y d' e' s1 h1 h2 p1 p2 Q q => by
    subst p1 p2
    exact ⟨_, _, dp_mono s1 _ _ h1, dp_mono s1 _ _ h2, gd, ge, q _ _ (.bl _) rfl⟩
theorem ev_neP (ha : Ev c K ta σ G (is d)) (hb : Ev c K tb σ G (is e)) (gd : fine d) (ge : e.plain = true) : Ev c K (tOp (rNeP K) ta tb) σ G (is (.bool (!PyData.eqv d e))) :=
  ev_op ha hb fun G1 H1 x y d' e' s1 h1 h2 p1 p2 Q q => by
    subst p1 p2
    exact ⟨_, _, dp_mono s1 _ _ h1, dp_mono s1 _ _ h2, gd, ge, q _ _ (.bl _) rfl⟩
/-- x == y, both laid in one way -/
theorem ev_eqE {x y : α} [inst : Decidable (x = y)] (he : Enc enc n) (hn : n ≤ 60) (ha : Ev c K ta σ G (is (enc x))) (hb : Ev c K tb σ G (is (enc y))) : Ev c K (tOp (rEqP K) ta tb) σ G (is (.bool (decide (x = y)))) :=
  (ev_eqP ha hb (he.fine hn x) (he.pl y)).to (by rw [eqv_dec he]; exact congrArg PyData.bool (decide_eq_decide.mpr Iff.rfl))
theorem ev_neE {x y : α} [inst : Decidable (x = y)] (he : Enc enc n) (hn : n ≤ 60) (ha : Ev c K ta σ G (is (enc x))) (hb : Ev c K tb σ G (is (enc y))) : Ev c K (tOp (rNeP K) ta tb) σ G (is (.bool (!decide (x = y)))) :=
  (ev_neP ha hb (he.fine hn x) (he.pl y)).to (by rw [eqv_dec he]; exact congrArg (fun b => PyData.bool !b) (decide_eq_decide.mpr Iff.rfl))
/-- x in xs -/
theorem ev_inE {t : Bool} {x : α} {l : List α} [inst : Decidable (x ∈ l)] (he : Enc enc n) (hn : n ≤ 60) (ha : Ev c K ta σ G (is (enc x))) (hb : Ev c K tb σ G (is (sqD t (l.map enc)))) : Ev c K (tOp (rInP K) ta tb) σ G (is (.bool (decide (x ∈ l)))) :=
  ev_op ha hb fun G1 H1 v u d' e' s1 h1 h2 p1 p2 Q q => by
    subst p1 p2
    refine ⟨_, t, _, dp_mono s1 _ _ h1, dp_mono s1 _ _ h2, he.fine hn x, plainAll_map he l, ?_⟩
    rw [any_eqv he]
    refine q _ _ (.bl _) ?_
    exact congrArg PyData.bool (decide_eq_decide.mpr Iff.rfl)
theorem ev_niE {t : Bool} {x : α} {l : List α} [inst : Decidable (x ∈ l)] (he : Enc enc n) (hn : n ≤ 60) (ha : Ev c K ta σ G (is (enc x))) (hb : Ev c K tb σ G (is (sqD t (l.map enc)))) : Ev c K (tOp (rNiP K) ta tb) σ G (is (.bool (!decide (x ∈ l)))) :=
  ev_op ha hb fun G1 H1 v u d' e' s1 h1 h2 p1 p2 Q q => by
    subst p1 p2
    refine ⟨_, t, _, dp_mono s1 _ _ h1, dp_mono s1 _ _ h2, he.fine hn x, plainAll_map he l, ?_⟩
    rw [any_eqv he]
    refine q _ _ (.bl _) ?_
    exact congrArg (fun b => PyData.bool !b) (decide_eq_decide.mpr Iff.rfl)
theorem enc_wd : Enc wd 1 := enc_tup enc_str
theorem enc_bs : ∀ t : Bool, Enc (bsD t) 2
  | true => enc_tup enc_wd
  | false => enc_lst enc_wd
end
end Mk
/-! ## MkShort -/
set_option autoImplicit true
set_option autoImplicit false
set_option linter.all false
namespace MkM
/-! The short logs: all logs over the names, of at most so many events. Plain. -/
section
variable {α : Type} [DecidableEq α]
def nextLv (names : List α) (lv : List (List α)) : List (List α) := (lv.map fun l => names.map fun x => l ++ [x]).flatten
def lvN (names : List α) : Nat → List (List α)
  | 0 => [[]]
  | n + 1 => nextLv names (lvN names n)
def shortOf (names : List α) : Nat → List (List α)
  | 0 => [[]]
  | n + 1 => shortOf names n ++ lvN names (n + 1)
theorem mem_nextLv {names : List α} {lv : List (List α)} {l : List α} : l ∈ nextLv names lv ↔ ∃ m ∈ lv, ∃ x ∈ names, l = m ++ [x] := by
  unfold nextLv
  rw [List.mem_flatten]
  constructor
  · rintro ⟨r, hr, hl⟩
    obtain ⟨m, hm, rfl⟩ := List.mem_map.mp hr
    obtain ⟨x, hx, rfl⟩ := List.mem_map.mp hl
    exact ⟨m, hm, x, hx, rfl⟩
  · rintro ⟨m, hm, x, hx, rfl⟩
    exact ⟨_, List.mem_map.mpr ⟨m, hm, rfl⟩, List.mem_map.mpr ⟨x, hx, rfl⟩⟩
theorem mem_lvN {names : List α} : ∀ {n : Nat} {l : List α}, l ∈ lvN names n ↔ l.length = n ∧ ∀ x ∈ l, x ∈ names
  | 0, l => by
    show l ∈ [[]] ↔ _
    rw [List.mem_singleton]
    constructor
    · rintro rfl
      exact ⟨rfl, fun _ h => nomatch h⟩
    · rintro ⟨h, _⟩
      exact List.length_eq_zero_iff.mp h
  | n + 1, l => by
    show l ∈ nextLv names (lvN names n) ↔ _
    rw [mem_nextLv]
    constructor
    · rintro ⟨m, hm, x, hx, rfl⟩
      obtain ⟨h1, h2⟩ := mem_lvN.mp hm
      refine ⟨by rw [List.length_append, h1]; rfl, fun y hy => ?_⟩
      rcases List.mem_append.mp hy with hy | hy
      · exact h2 y hy
      · rw [List.mem_singleton] at hy
        rw [hy]
        exact hx
    · rintro ⟨h1, h2⟩
      have hne : l ≠ [] := fun e => by rw [e] at h1; cases h1
      refine ⟨l.dropLast, mem_lvN.mpr ⟨by rw [List.length_dropLast, h1]; rfl, fun x hx => h2 x (List.dropLast_subset l hx)⟩, l.getLast hne, h2 _ (List.getLast_mem hne), (List.dropLast_concat_getLast hne).symm⟩
theorem mem_shortOf {names : List α} : ∀ {n : Nat} {l : List α}, l ∈ shortOf names n ↔ l.length ≤ n ∧ ∀ x ∈ l, x ∈ names
  | 0, l => by
    show l ∈ lvN names 0 ↔ _
    rw [mem_lvN]
    exact and_congr_left' (by omega)
  | n + 1, l => by
    show l ∈ shortOf names n ++ lvN names (n + 1) ↔ _
    rw [List.mem_append, mem_shortOf, mem_lvN]
    constructor
    · rintro (⟨h1, h2⟩ | ⟨h1, h2⟩)
      · exact ⟨by omega, h2⟩
      · exact ⟨by omega, h2⟩
    · rintro ⟨h1, h2⟩
      rcases Nat.lt_or_ge n l.length with h | h
      · exact .inr ⟨by omega, h2⟩
      · exact .inl ⟨h, h2⟩
theorem lvN_nodup {names : List α} (hn : names.Nodup) : ∀ n : Nat, (lvN names n).Nodup
  | 0 => by simp [lvN]
  | n + 1 => by
    have ih := lvN_nodup hn n
    show (nextLv names (lvN names n)).Nodup
    unfold nextLv
    generalize lvN names n = lv at ih
    induction lv with
    | nil => simp
    | cons l lv jh =>
      rw [List.nodup_cons] at ih
      rw [List.map_cons, List.flatten_cons, List.nodup_append]
      refine ⟨?_, jh ih.2, ?_⟩
      · refine List.pairwise_map.mpr (hn.imp fun h e => h ?_)
        exact List.cons.inj (List.append_cancel_left e) |>.1
      · intro a ha b hb e
        subst e
        obtain ⟨x, _, rfl⟩ := List.mem_map.mp ha
        obtain ⟨r, hr, hm⟩ := List.mem_flatten.mp hb
        obtain ⟨m, hm', rfl⟩ := List.mem_map.mp hr
        obtain ⟨y, _, e⟩ := List.mem_map.mp hm
        have := (List.append_inj' e rfl).1
        rw [this] at hm'
        exact ih.1 hm'
theorem shortOf_nodup {names : List α} (hn : names.Nodup) : ∀ n : Nat, (shortOf names n).Nodup
  | 0 => by simp [shortOf]
  | n + 1 => by
    show (shortOf names n ++ lvN names (n + 1)).Nodup
    rw [List.nodup_append]
    refine ⟨shortOf_nodup hn n, lvN_nodup hn _, fun a ha b hb e => ?_⟩
    subst e
    have h1 := (mem_shortOf.mp ha).1
    have h2 := (mem_lvN.mp hb).1
    omega
theorem lvN_len (names : List α) : ∀ n : Nat, (lvN names n).length = names.length ^ n
  | 0 => rfl
  | n + 1 => by
    have ih := lvN_len names n
    show (nextLv names (lvN names n)).length = _
    have : ∀ lv : List (List α), (nextLv names lv).length = lv.length * names.length := by
      intro lv
      unfold nextLv
      induction lv with
      | nil => simp
      | cons l lv jh => rw [List.map_cons, List.flatten_cons, List.length_append, jh, List.length_map, List.length_cons, Nat.succ_mul, Nat.add_comm]
    rw [this, ih, Nat.pow_succ]
end
end MkM
/-! ## MkLayer7 -/
set_option autoImplicit true
set_option Elab.async false
set_option linter.all false
set_option maxRecDepth 100000
set_option maxHeartbeats 4000000
namespace Mk
open PySem PySem.Spec PyProof.Rows L2
section
variable {c : Ctx} {K : PySem.W.Frag} {σ : St} {G G' G0 H0 G1 H1 H : Hp} {te ta tb tl : TE} {tt tu : TT} {φ ψ χ : PyData → Prop} {d e : PyData} {ds es : List PyData} {v : V} {B : Addr → Prop} {p : Addr} {o : HO} {tz : TS} {D : Ends}
theorem evL_lst {t : TA} (h : EX c K t σ G ds) (hl : ds.length ≤ 100000) : EvL c K (tLst t) σ G ds := fun G0 H a b j Q q => h G0 H a b j _ fun vs G1 H1 g1 j1 z => by
  refine ⟨by rw [dpa_len z]; exact Nat.le_trans hl (by decide), fun p hp => ?_⟩
  have h0 : H p = none := by
    cases e : H p with
    | none => rfl
    | some u => exact absurd hp (g1.t p (by rw [e]; exact fun z => nomatch z))
  have n1 : G1 p = none := g1.s.free hp
  exact q p G1 _ h0 (g1.trans ((Grow.refl g1.s).mut (.inl hp) n1)) (c.new j1 hp) ⟨n1, vs, upd_same, z⟩
/-- a list that is known, told with its items -/
def KL (K : PySem.W.Frag) (p : Addr) (G : Hp) (ds : List PyData) : Prop := ∃ acc, G p = some (.lst acc) ∧ DpAll K G acc ds
theorem KL.mono (h : KL K p G ds) (s : Same G G') : KL K p G' ds := by
  obtain ⟨acc, h1, h2⟩ := h
  exact ⟨acc, s _ _ h1, dpa_mono s _ _ h2⟩
theorem KL.dp (h : KL K p G ds) : Dp K G (.ref p) (.list ds) := by
  obtain ⟨acc, h1, h2⟩ := h
  exact .lst (.inl (.inl h1)) h2
/-- what is under way becomes known -/
theorem ML.know (m : ML K p G1 H1 ds) (x : Grow B G H G1 H1) (h0 : H p = none) (s : Same G H) : ∃ G2, Grow B G H G2 H1 ∧ KL K p G2 ds ∧ Same G1 G2 ∧ ∀ f, f ≠ p → G1 f = none → G2 f = none := by
  obtain ⟨hn, acc, h1, h2⟩ := m.ex
  exact ⟨_, x.know h0 h1 s, ⟨acc, upd_same, dpa_mono (same_new hn) _ _ h2⟩, same_new hn, fun f hf h => by rw [upd_ne hf]; exact h⟩
theorem ML.knowK (m : ML K p G H ds) {f : Addr} {o : HO} (ne : f ≠ p) (h : H f = some o) (hg : G f = none) : ML K p (upd G f o) H ds := by
  obtain ⟨hn, acc, h1, h2⟩ := m.ex
  exact ⟨by rw [upd_ne (Ne.symm ne)]; exact hn, acc, h1, dpa_mono (same_new hg) _ _ h2⟩
/-- xs.extend(ys), ys a known list -/
theorem extK_core {i i2 : Nat} {f b : Addr} (hv : σ[i]? = some (some (.ref f))) (hv2 : σ[i2]? = some (some (.ref b))) (m : ML K f G H ds) (m2 : KL K b G es) (s : Same G H) (j : c.J H) (nP : ¬ c.P f) (hl : ds.length + es.length < 100000) {Q : VK}
    (k : ∀ H1, (∀ G0 H0, Grow c.B G0 H0 G H → H0 f = none → Grow c.B G0 H0 G H1) → c.J H1 → ML K f G H1 (ds ++ es) → Same G H1 → Q .non H1) : tBM K "list" rExtend (tVar i) (tCons (tVar i2) tNil) σ H Q := by
  obtain ⟨h0, acc, h1, h2⟩ := m.ex
  obtain ⟨bcc, b1, b2⟩ := m2
  refine ⟨.ref f, hv, .inl ⟨rfl, acc, .inl (.inl h1)⟩, .ref b, hv2, f, b, acc, bcc, rfl, rfl, h1, s _ _ b1, ?_, k _ (fun G0 H0 x hn => x.mut (.inl hn) h0) (c.mut j nP) ⟨h0, _, upd_same, dpa_app h2 b2⟩ fun a u q => ?_⟩
  · rw [dpa_len h2, dpa_len b2]
    exact Nat.le_trans (Nat.le_of_lt hl) (by decide)
  · rw [upd_ne (ne_of_none q h0)]
    exact s a u q
/-- x = a new list, known from now on -/
theorem q_asgL {i : Nat} (h : EvL c K te σ G ds) (s : Same G H) (j : c.J H) (k : ∀ p G1 H1, H p = none → Grow c.B G H G1 H1 → c.J H1 → KL K p G1 ds → tz D (σ.set i (some (.ref p))) H1) : tSeq (tAsg te (gName i)) tz D σ H :=
  h G H (Same.refl G) s j _ fun p G1 H1 hn g1 j1 m => by
    obtain ⟨G2, g2, k2, _, _⟩ := m.know g1 hn s
    exact k p G2 H1 hn g2 j1 k2
/-! ### instances -/
/-- what stands at a: an instance with such fields -/
structure Ins (K : PySem.W.Frag) (C a : Addr) (fs : List (Str × V)) (G H : Hp) : Prop where
  ex : G a = none ∧ ∃ dx, H a = some (.ins C dx fs)
theorem Ins.grow {C a : Addr} {fs : List (Str × V)} (m : Ins K C a fs G H) (nb : ¬ B a) (x : Grow B G H G1 H1) : Ins K C a fs G1 H1 := by
  obtain ⟨h0, dx, h1⟩ := m.ex
  exact ⟨x.none1 (by rw [h1]; exact fun z => nomatch z) h0, dx, x.h _ _ nb h1⟩
/-- a context that also keeps an instance -/
def cN (c : Ctx) (a : Addr) (C : Addr) (fs : List (Str × V)) : Ctx where
  B := c.B
  P := fun b => c.P b ∨ b = a
  J := fun H => c.J H ∧ ∃ dx, H a = some (.ins C dx fs)
  bp := fun b h => .inl (c.bp b h)
  tr := fun H b j e => by
    rcases e with e | e
    · exact c.tr H b j.1 e
    · obtain ⟨dx, h⟩ := j.2
      rw [e, h]
      exact fun z => nomatch z
  up := fun H H' j k => by
    obtain ⟨dx, h⟩ := j.2
    exact ⟨c.up H H' j.1 fun b o p q => k b o (.inl p) q, dx, k a _ (.inr rfl) h⟩
/-- self.f, in such a context -/
theorem ev_fldN {a C : Addr} {fs : List (Str × V)} {i : Nat} {f : Str} {v : V} (hi : σ[i]? = some (some (.ref a))) (hc : Cls K C) (hn : NoAttr K C f) (hf : fs.lookup f = some v) (hd : Dp K G v d) : Ev (cN c a C fs) K (tFld K (tVar i) f) σ G (is d) :=
  fun G0 H x y j Q q => by
    obtain ⟨dx, h⟩ := j.2
    exact ⟨.ref a, hi, a, C, dx, fs, v, rfl, h, hc, hn, hf, q v d G0 H (Grow.refl y) j (dp_mono x _ _ hd) rfl⟩
/-- self.f = e and what follows -/
theorem q_fld {a C dx : Addr} {fs : List (Str × V)} {i : Nat} {f : Str} (h : Ev c K te σ G φ) (s : Same G H) (j : c.J H) (hi : σ[i]? = some (some (.ref a))) (hc : Cls K C) (hn : NoAttr K C f) (ha : H a = some (.ins C dx fs)) (hg : G a = none) (nb : ¬ c.B a) (hl : fs.length < 1000)
    (k : ∀ v d G1 H1, Grow c.B G H G1 H1 → c.J H1 → G1 a = none → H1 a = some (.ins C dx fs) → Dp K G1 v d → φ d → tz D σ (upd H1 a (.ins C dx (putF f v fs)))) : tSeq (sFld K (tVar i) te f) tz D σ H :=
  h G H (Same.refl G) s j _ fun v d G1 H1 g1 j1 d1 p1 => ⟨.ref a, hi, a, C, dx, fs, rfl, g1.h _ _ nb ha, hc, hn, hl, k v d G1 H1 g1 j1 (g1.none1 (by rw [ha]; exact fun z => nomatch z) hg) (g1.h _ _ nb ha) d1 p1⟩
theorem st_fld {a C dx : Addr} {fs : List (Str × V)} {i : Nat} {f : Str} (h : Ev c K te σ G φ) (s : Same G H) (j : c.J H) (hi : σ[i]? = some (some (.ref a))) (hc : Cls K C) (hn : NoAttr K C f) (ha : H a = some (.ins C dx fs)) (hg : G a = none) (nb : ¬ c.B a) (hl : fs.length < 1000)
    (k : ∀ v d G1 H1, Grow c.B G H G1 H1 → c.J H1 → G1 a = none → H1 a = some (.ins C dx fs) → Dp K G1 v d → φ d → D.nx σ (upd H1 a (.ins C dx (putF f v fs)))) : sFld K (tVar i) te f D σ H :=
  h G H (Same.refl G) s j _ fun v d G1 H1 g1 j1 d1 p1 => ⟨.ref a, hi, a, C, dx, fs, rfl, g1.h _ _ nb ha, hc, hn, hl, k v d G1 H1 g1 j1 (g1.none1 (by rw [ha]; exact fun z => nomatch z) hg) (g1.h _ _ nb ha) d1 p1⟩
end
end Mk
/-! ## MkW3 -/
set_option autoImplicit true
set_option Elab.async false
set_option linter.all false
set_option maxRecDepth 100000
set_option maxHeartbeats 4000000
namespace Mk
open PySem PySem.Spec PyProof.Rows L2 MkM
abbrev inO (ls : List Wd) : List Wd := inOrder OStr ls
abbrev leO (ls : List Wd) : List Wd := leastOf OStr ls
/-- what an ask is, as data -/
abbrev AskT := Wd × Bool
def askD (a : AskT) : PyData := .tuple [wd a.1, .bool a.2]
def nrD (rows : List Wd) : PyData := .list (rows.map wd)
/-- open_logs -/
def rowsOf (short : List Wd) (asks : List AskT) : List Wd := short.filter fun l => !((asks.filter fun a => !a.2).any fun a => isPart l a.1)
def partsIn (rows : List Wd) (l : Wd) : List Wd := rows.filter fun r => isPart r l
def nearOf (short : List Wd) (asks : List AskT) : List (List Wd) := (asks.filter fun a => a.2).map fun a => partsIn (rowsOf short asks) a.1
def sureBy (l : Wd) (rows : List Wd) (near : List (List Wd)) : Option Bool := if does rows l = true then (if (near.any fun few => decide (partsIn few l = few)) = true then some true else none) else some false
def optB : Option Bool → PyData
  | none => .none
  | some b => .bool b
section
variable {P : Program} {w : World} {K : PySem.W.Frag} {mg : Str → Option Value} {base : Heap}
theorem inO_len (ls : List Wd) : (inO ls).length ≤ ls.length := by
  have h := inc_nodup OStr (inc_inOrder OStr ls)
  exact List.Nodup.length_le_of_subset h fun x hx => (mem_inOrder OStr x ls).mp hx
theorem leO_len (ls : List Wd) : (leO ls).length ≤ ls.length := by
  have h := base_nodup OStr (leastOf_base OStr ls)
  exact List.Nodup.length_le_of_subset h fun x hx => leastOf_mem OStr hx
/-! ### in_order -/
-- slots: 0 logs, 1 size, 2 log
abbrev N_in_order : List Str := ["logs", "size", "log"]
theorem sc_in_order : FnScope N_in_order ["logs"] (defScope st_in_order) := ⟨rfl, rfl, rfl, by decide +kernel, rfl, by decide +kernel, by decide +kernel⟩
theorem bd_in_order : BindOk "in_order" "in_order" st_in_order ["logs"] := fun _ _ _ _ _ _ us hl => match us, hl with | [_], _ => rfl
abbrev spInOrder (K : PySem.W.Frag) : Sp := spP K (fun i : Bool × List Wd => [bsD i.1 i.2]) (fun i => i.2.length < 64) (fun i => bsD false (inO i.2))
theorem ok_in_order (T : Txt K mg) : Callee P w K mg base 1 "in_order" ["logs"] (spInOrder K) := by
  refine callee_of T.f_in_order T.g_in_order sc_in_order bd_in_order (spP_len fun _ => rfl) fun cdv A outer s H vs Q E hr h => ?_
  obtain ⟨⟨t, ls⟩, G, hs, ha, hl, k⟩ := h
  have hl : ls.length < 64 := hl
  have hi := inO_len ls
  obtain ⟨v1, rfl, d1⟩ := dpa_one ha
  refine ⟨_, (pss_one (ps_ret (pe_lc (own := [("size", 1), ("log", 2)]) rfl sc_in_order.nd (k_pi_sq (K := K) rfl (pe_callB (id := "sorted") (k_sortedSet (K := K) (P := P) (w := w) rfl rfl rfl rfl (Rm65 hr)) (by rfl) T.b_sorted (by decide +kernel) (pa_cons (pe_callTy (T := "set") (k_setN (K := K) (P := P) (w := w) rfl rfl rfl rfl (Rm65 hr)) (by rfl) T.b_set (by decide +kernel) (pa_cons (pe_lc (own := [("log", 2)]) rfl sc_in_order.nd (k_pi_sq (K := K) rfl (pv 0)) (blkOk_by (by kernel_rfl)) (fun _ _ _ _ _ => (pg_name (i := 2) sc_in_order.nd rfl (by first | exact Or.inl rfl | exact Or.inr rfl))) (fun _ _ _ _ _ => pts_nil) (fun _ _ _ _ _ => (pe_tup (pa_cons (pe_callB (id := "len") (k_len (K := K) rfl) (by rfl) T.b_len (by decide +kernel) (pa_cons (pv 2) pa_nil)) (pa_cons (pv 2) pa_nil))))) pa_nil)) pa_nil))) (blkOk_by (by kernel_rfl)) (fun _ _ _ _ _ => (k_pg_tup (K := K) (n := 2) rfl rfl (pgs_cons (pg_name (i := 1) sc_in_order.nd rfl (by first | exact Or.inl rfl | exact Or.inr rfl)) (pgs_cons (pg_name (i := 2) sc_in_order.nd rfl (by first | exact Or.inl rfl | exact Or.inr rfl)) pgs_nil)))) (fun _ _ _ _ _ => pts_nil) (fun _ _ _ _ _ => (pv 2))))), ?_⟩
  refine st_ret (c := c0) (K := K) (G := G) (φ := is (bsD false (inO ls))) ?_ hs trivial fun v d G1 H1 g1 _ dv e => by subst e; exact k v G1 H1 g1 dv
  refine (ev_lc pairD (inO ls) (fun _ => true) wd (es_L (ev_sortedSet (ev_map wd ls pairD (es_sq (ev_var rfl d1)) (by omega) (fun _ => rfl) fun x G1 v hx s1 dv => ?_) hl)) (by omega) fun x G1 v hx s1 dv => ?_).to ?_
  · exact (ev_tup2 (ev_lenT (ev_var rfl dv)) (ev_var rfl dv)).to (by rw [List.length_map]; rfl)
  · exact lct_pair dv (fun _ _ => rfl) (fun v1 v2 _ _ => et_yes) fun v1 v2 h1 h2 _ => ev_var rfl h2
  · rw [List.filter_eq_self.mpr fun _ _ => rfl]
    rfl
/-! ### least_of -/
-- slots: 0 logs, 1 found, 2 log*, 3 word
abbrev N_least_of : List Str := ["logs", "found", "log", "word"]
theorem sc_least_of : FnScope N_least_of ["logs"] (defScope st_least_of) := ⟨rfl, rfl, rfl, by decide +kernel, rfl, by decide +kernel, by decide +kernel⟩
theorem bd_least_of : BindOk "least_of" "least_of" st_least_of ["logs"] := fun _ _ _ _ _ _ us hl => match us, hl with | [_], _ => rfl
abbrev spLeast (K : PySem.W.Frag) : Sp := spP K (fun i : Bool × List Wd => [bsD i.1 i.2]) (fun i => i.2.length < 64) (fun i => bsD true (leO i.2))
theorem ok_least_of (T : Txt K mg) : Callee P w K mg base 3 "least_of" ["logs"] (spLeast K) := by
  have C_in_order : Callee P w K mg base 1 "in_order" ["logs"] (spInOrder K) := ok_in_order T
  have C_is_part : Callee P w K mg base 2 "is_part" ["word", "log"] (spIsPart K) := ok_is_part T
  refine callee_of T.f_least_of T.g_least_of sc_least_of bd_least_of (spP_len fun _ => rfl) fun cdv A outer s H vs Q E hr h => ?_
  obtain ⟨⟨t, ls⟩, G, hs, ha, hl, k⟩ := h
  have hl : ls.length < 64 := hl
  have hi := inO_len ls
  obtain ⟨v1, rfl, d1⟩ := dpa_one ha
  refine ⟨_, (pss_cons (ps_set (i := 1) sc_least_of.nd rfl (by first | exact Or.inl rfl | exact Or.inr rfl) (pe_lst pa_nil))
        (pss_cons (ps_for PassesOwn.never rfl (k_pi_sq (K := K) rfl (pe_callC C_in_order hr (by omega) rfl (pa_cons (pv 0) pa_nil))) (pg_name (i := 2) sc_least_of.nd rfl (by first | exact Or.inl rfl | exact Or.inr rfl)) (pss_one (ps_if (pt_not (pt_val (pe_callB (id := "any") (k_any (K := K) rfl rfl) (by rfl) T.b_any (by decide +kernel) (pa_cons (pe_lc (own := [("word", 3)]) rfl sc_least_of.nd (k_pi_sq (K := K) rfl (pv 1)) (blkOk_by (by kernel_rfl)) (fun _ _ _ _ _ => (pg_name (i := 3) sc_least_of.nd rfl (by first | exact Or.inl rfl | exact Or.inr rfl))) (fun _ _ _ _ _ => pts_nil) (fun _ _ _ _ _ => (pe_callC C_is_part hr (by omega) rfl (pa_cons (pv 3) (pa_cons (pv 2) pa_nil))))) pa_nil)))) (pss_one (ps_expr (k_bm (K := K) rfl PySem.F.plainAttrs_list PySem.F.slot_list_append PySem.F.type_list_append mt_append (pv 1) (pa_cons (pv 2) pa_nil)))) pss_nil)))
        (pss_one (ps_ret (pe_callTy (T := "tuple") (k_tuple (K := K) rfl) (by rfl) T.b_tuple (by decide +kernel) (pa_cons (pv 1) pa_nil)))))), ?_⟩
  refine q_lst (c := c0) (K := K) (G := G) (ds := []) ex_nil (by simp) hs trivial fun f G1 H1 hf g1 _ m1 => ?_
  refine q_forI (c := c0) (G := G1) wd (inO ls) (es_L (ev_call (t, ls) (ea_cons (ev_var rfl (dp_mono g1.g _ _ d1)) ea_nil) hl)) g1.s trivial
    (fun i σ' G' H' => Grow B0 G H G' H' ∧ ML K f G' H' ((keepLeast [] ((inO ls).take i)).map wd) ∧ ∃ y2 y3, σ' = [some v1, some (.ref f), y2, y3])
    (fun G2 H2 g _ => ⟨g1.trans g, m1.grow0 g, none, none, rfl⟩) (fun i σ' G' H' h => h.1.s) ?_ ?_
  · rintro G0 hG i x σ' G' H' hx s0 ⟨g, m, y2, y3, rfl⟩ v G2 H2 g2 dv
    refine ⟨_, tg_name, ?_⟩
    have m2 := m.grow0 g2
    generalize hk : keepLeast [] ((inO ls).take i) = found at m2
    have hnext : keepLeast [] ((inO ls).take (i + 1)) = if (found.any fun w => isPart w x) = true then found else found ++ [x] := by
      rw [take_succ' hx]
      unfold keepLeast at hk ⊢
      rw [List.foldl_append, hk]
      rfl
    have hfl : found.length ≤ i := by
      have : ∀ l : List Wd, ∀ a : List Wd, (keepLeast a l).length ≤ a.length + l.length := by
        intro l
        induction l with
        | nil => intro a; exact Nat.le_refl _
        | cons y l ih =>
          intro a
          show (keepLeast (if (a.any fun w => isPart w y) = true then a else a ++ [y]) l).length ≤ _
          have := ih (if (a.any fun w => isPart w y) = true then a else a ++ [y])
          split at this
          · rw [if_pos (by assumption), List.length_cons]
            omega
          · rw [if_neg (by assumption), List.length_cons]
            rw [List.length_append, List.length_singleton] at this
            omega
      have := this ((inO ls).take i) []
      rw [hk, List.length_take] at this
      simp only [List.length_nil] at this
      omega
    have hil : i < (inO ls).length := by
      rcases Nat.lt_or_ge i (inO ls).length with z | z
      · exact z
      · rw [List.getElem?_eq_none z] at hx
        cases hx
    obtain ⟨acc, hacc, dacc⟩ := m2.done
    refine et_hold (c := c0) (φ := is (!(found.any fun w => isPart w x))) (et_not (et_B (ev_anyMap wd found (fun w => isPart w x) (es_L (ev_var rfl dacc)) (by omega) (fun _ => rfl) fun y G3 v3 hy s3 dv3 => ?_))) g2.s hacc m2.ex.1 (fun z => z) trivial fun b G3 H3 g3 _ n3 h3 hb => ?_
    · exact ev_call (y, x) (ea_cons (ev_var rfl dv3) (ea_cons (ev_var rfl (dp_mono s3 _ _ (dp_mono (same_upd m2.ex.1) _ _ dv))) ea_nil)) trivial
    · subst hb
      have m3 := m2.grow0 g3
      cases hb : (found.any fun w => isPart w x) with
      | true =>
        refine ⟨G3, (s0.trans g2.g).trans g3.g, (g.trans g2).trans g3, ?_, some v, y3, rfl⟩
        rw [hnext, hb, if_pos rfl]
        exact m3
      | false =>
        refine st_append (c := c0) rfl m3 (ev_var rfl (dp_mono g3.g _ _ dv)) g3.s trivial (fun z => z) (by rw [List.length_map]; omega) fun d G4 H4 gr _ _ e m4 s4 s5 => ?_
        subst e
        refine ⟨G4, ((s0.trans g2.g).trans g3.g).trans s4, gr G H ((g.trans g2).trans g3) hf, ?_, some v, y3, rfl⟩
        rw [hnext, hb, if_neg Bool.false_ne_true, List.map_append]
        exact m4
  · rintro σ' G' H' sg ⟨g, m, y2, y3, rfl⟩
    rw [List.take_length] at m
    obtain ⟨acc, hacc, dacc⟩ := m.done
    have gk := g.know hf hacc hs
    exact st_ret (c := c0) (K := K) (φ := is (bsD true (leO ls))) (ev_tupleL (ev_var rfl dacc)) gk.s trivial fun v d G1 H1 g1 _ dv e => by subst e; exact k v G1 H1 (gk.trans g1) dv
/-! ### base_of -/
-- slots: 0 logs
abbrev N_base_of : List Str := ["logs"]
theorem sc_base_of : FnScope N_base_of ["logs"] (defScope st_base_of) := ⟨rfl, rfl, rfl, by decide +kernel, rfl, by decide +kernel, by decide +kernel⟩
theorem bd_base_of : BindOk "base_of" "base_of" st_base_of ["logs"] := fun _ _ _ _ _ _ us hl => match us, hl with | [_], _ => rfl
abbrev spBase (K : PySem.W.Frag) : Sp := spP K (fun i : Bool × List Wd => [bsD i.1 i.2]) (fun i => i.2.length < 64 ∧ LB i.2) (fun i => bsD true (leO i.2))
theorem ok_base_of (T : Txt K mg) : Callee P w K mg base 4 "base_of" ["logs"] (spBase K) := by
  have C_tupled : Callee P w K mg base 3 "tupled" ["value"] (spTupB K) := ok_tupB T
  have C_least_of : Callee P w K mg base 3 "least_of" ["logs"] (spLeast K) := ok_least_of T
  refine callee_of T.f_base_of T.g_base_of sc_base_of bd_base_of (spP_len fun _ => rfl) fun cdv A outer s H vs Q E hr h => ?_
  obtain ⟨⟨t, ls⟩, G, hs, ha, hl, k⟩ := h
  obtain ⟨v1, rfl, d1⟩ := dpa_one ha
  refine ⟨_, (pss_one (ps_ret (pe_callC C_least_of hr (by omega) rfl (pa_cons (pe_callC C_tupled hr (by omega) rfl (pa_cons (pv 0) pa_nil)) pa_nil)))), ?_⟩
  exact st_ret (c := c0) (K := K) (G := G) (φ := is (bsD true (leO ls))) (ev_call (true, ls) (ea_cons (ev_call (t, ls) (ea_cons (ev_var rfl d1) ea_nil) hl.2) ea_nil) hl.1) hs trivial fun v d G1 H1 g1 _ dv e => by subst e; exact k v G1 H1 g1 dv
/-! ### does -/
-- slots: 0 base, 1 log*, 2 word
abbrev N_does : List Str := ["base", "log", "word"]
theorem sc_does : FnScope N_does ["base", "log"] (defScope st_does) := ⟨rfl, rfl, rfl, by decide +kernel, rfl, by decide +kernel, by decide +kernel⟩
theorem bd_does : BindOk "does" "does" st_does ["base", "log"] := fun _ _ _ _ _ _ us hl => match us, hl with | [_, _], _ => rfl
abbrev spDoes (K : PySem.W.Frag) : Sp := spP K (fun i : (Bool × List Wd) × Wd => [bsD i.1.1 i.1.2, wd i.2]) (fun i => i.1.2.length ≤ 100000) (fun i => .bool (does i.1.2 i.2))
theorem ok_does (T : Txt K mg) : Callee P w K mg base 3 "does" ["base", "log"] (spDoes K) := by
  have C_is_part : Callee P w K mg base 2 "is_part" ["word", "log"] (spIsPart K) := ok_is_part T
  refine callee_of T.f_does T.g_does sc_does bd_does (spP_len fun _ => rfl) fun cdv A outer s H vs Q E hr h => ?_
  obtain ⟨⟨⟨t, b⟩, l⟩, G, hs, ha, hl, k⟩ := h
  obtain ⟨v1, v2, rfl, d1, d2⟩ := dpa_two ha
  refine ⟨_, (pss_one (ps_ret (pe_callB (id := "any") (k_any (K := K) rfl rfl) (by rfl) T.b_any (by decide +kernel) (pa_cons (pe_lc (own := [("word", 2)]) rfl sc_does.nd (k_pi_sq (K := K) rfl (pv 0)) (blkOk_by (by kernel_rfl)) (fun _ _ _ _ _ => (pg_name (i := 2) sc_does.nd rfl (by first | exact Or.inl rfl | exact Or.inr rfl))) (fun _ _ _ _ _ => pts_nil) (fun _ _ _ _ _ => (pe_callC C_is_part hr (by omega) rfl (pa_cons (pv 2) (pa_cons (pv 1) pa_nil))))) pa_nil)))), ?_⟩
  refine st_ret (c := c0) (K := K) (G := G) (φ := is (.bool (does b l))) (ev_anyMap wd b (fun w => isPart w l) (es_sq (ev_var rfl d1)) hl (fun _ => rfl) fun x G1 v hx s1 dv => ?_) hs trivial fun v d G1 H1 g1 _ dv e => by subst e; exact k v G1 H1 g1 dv
  exact ev_call (x, l) (ea_cons (ev_var rfl dv) (ea_cons (ev_var rfl (dp_mono s1 _ _ d2)) ea_nil)) trivial
/-! ### parts_in -/
-- slots: 0 rows, 1 log*, 2 row
abbrev N_parts_in : List Str := ["rows", "log", "row"]
theorem sc_parts_in : FnScope N_parts_in ["rows", "log"] (defScope st_parts_in) := ⟨rfl, rfl, rfl, by decide +kernel, rfl, by decide +kernel, by decide +kernel⟩
theorem bd_parts_in : BindOk "parts_in" "parts_in" st_parts_in ["rows", "log"] := fun _ _ _ _ _ _ us hl => match us, hl with | [_, _], _ => rfl
abbrev spParts (K : PySem.W.Frag) : Sp := spP K (fun i : List Wd × Wd => [bsD false i.1, wd i.2]) (fun i => i.1.length ≤ 100000) (fun i => bsD false (partsIn i.1 i.2))
theorem ok_parts_in (T : Txt K mg) : Callee P w K mg base 3 "parts_in" ["rows", "log"] (spParts K) := by
  have C_is_part : Callee P w K mg base 2 "is_part" ["word", "log"] (spIsPart K) := ok_is_part T
  refine callee_of T.f_parts_in T.g_parts_in sc_parts_in bd_parts_in (spP_len fun _ => rfl) fun cdv A outer s H vs Q E hr h => ?_
  obtain ⟨⟨b, l⟩, G, hs, ha, hl, k⟩ := h
  obtain ⟨v1, v2, rfl, d1, d2⟩ := dpa_two ha
  refine ⟨_, (pss_one (ps_ret (pe_lc (own := [("row", 2)]) rfl sc_parts_in.nd (k_pi_sq (K := K) rfl (pv 0)) (blkOk_by (by kernel_rfl)) (fun _ _ _ _ _ => (pg_name (i := 2) sc_parts_in.nd rfl (by first | exact Or.inl rfl | exact Or.inr rfl))) (fun _ _ _ _ _ => pts_one (pt_val (pe_callC C_is_part hr (by omega) rfl (pa_cons (pv 2) (pa_cons (pv 1) pa_nil))))) (fun _ _ _ _ _ => (pv 2))))), ?_⟩
  refine st_ret (c := c0) (K := K) (G := G) (φ := is (bsD false (partsIn b l))) (ev_pick wd b (fun r => isPart r l) wd (es_L (ev_var rfl d1)) hl (fun _ => rfl) (fun x G1 v hx s1 dv => ?_) fun x G1 v hx s1 dv _ => ev_var rfl dv) hs trivial fun v d G1 H1 g1 _ dv e => by subst e; exact k v G1 H1 g1 dv
  exact et_B (ev_call (x, l) (ea_cons (ev_var rfl dv) (ea_cons (ev_var rfl (dp_mono s1 _ _ d2)) ea_nil)) trivial)
/-! ### open_logs -/
-- slots: 0 short, 1 asks*, 2 rows*, 3 log, 4 ask, 5 truth
abbrev N_open_logs : List Str := ["short", "asks", "rows", "log", "ask", "truth"]
theorem sc_open_logs : FnScope N_open_logs ["short", "asks"] (defScope st_open_logs) := ⟨rfl, rfl, rfl, by decide +kernel, rfl, by decide +kernel, by decide +kernel⟩
theorem bd_open_logs : BindOk "open_logs" "open_logs" st_open_logs ["short", "asks"] := fun _ _ _ _ _ _ us hl => match us, hl with | [_, _], _ => rfl
abbrev spOpen (K : PySem.W.Frag) : Sp := spP K (fun i : List Wd × List AskT => [bsD false i.1, .tuple (i.2.map askD)]) (fun i => i.1.length ≤ 1000 ∧ i.2.length ≤ 1000) (fun i => .tuple [bsD false (rowsOf i.1 i.2), .list ((nearOf i.1 i.2).map nrD)])
theorem ok_open_logs (T : Txt K mg) : Callee P w K mg base 4 "open_logs" ["short", "asks"] (spOpen K) := by
  have C_is_part : Callee P w K mg base 2 "is_part" ["word", "log"] (spIsPart K) := ok_is_part T
  have C_parts_in : Callee P w K mg base 3 "parts_in" ["rows", "log"] (spParts K) := ok_parts_in T
  refine callee_of T.f_open_logs T.g_open_logs sc_open_logs bd_open_logs (spP_len fun _ => rfl) fun cdv A outer s H vs Q E hr h => ?_
  obtain ⟨⟨sh, as⟩, G, hs, ha, ⟨hl1, hl2⟩, k⟩ := h
  have hl1 : sh.length ≤ 1000 := hl1
  have hl2 : as.length ≤ 1000 := hl2
  have hr1 : (rowsOf sh as).length ≤ 1000 := Nat.le_trans (List.length_filter_le ..) hl1
  obtain ⟨v1, v2, rfl, d1, d2⟩ := dpa_two ha
  refine ⟨_, (pss_cons (ps_set (i := 2) sc_open_logs.nd rfl (by first | exact Or.inl rfl | exact Or.inr rfl) (pe_lc (own := [("log", 3)]) rfl sc_open_logs.nd (k_pi_sq (K := K) rfl (pv 0)) (blkOk_by (by kernel_rfl)) (fun _ _ _ _ _ => (pg_name (i := 3) sc_open_logs.nd rfl (by first | exact Or.inl rfl | exact Or.inr rfl))) (fun _ _ _ _ _ => pts_one (pt_not (pt_val (pe_callB (id := "any") (k_any (K := K) rfl rfl) (by rfl) T.b_any (by decide +kernel) (pa_cons (pe_lc (own := [("ask", 4), ("truth", 5)]) rfl sc_open_logs.nd (k_pi_sq (K := K) rfl (pv 1)) (blkOk_by (by kernel_rfl)) (fun _ _ _ _ _ => (k_pg_tup (K := K) (n := 2) rfl rfl (pgs_cons (pg_name (i := 4) sc_open_logs.nd rfl (by first | exact Or.inl rfl | exact Or.inr rfl)) (pgs_cons (pg_name (i := 5) sc_open_logs.nd rfl (by first | exact Or.inl rfl | exact Or.inr rfl)) pgs_nil)))) (fun _ _ _ _ _ => pts_one (pt_not (pt_val (pv 5)))) (fun _ _ _ _ _ => (pe_callC C_is_part hr (by omega) rfl (pa_cons (pv 3) (pa_cons (pv 4) pa_nil))))) pa_nil))))) (fun _ _ _ _ _ => (pv 3))))
        (pss_one (ps_ret (pe_tup (pa_cons (pv 2) (pa_cons (pe_lc (own := [("ask", 4), ("truth", 5)]) rfl sc_open_logs.nd (k_pi_sq (K := K) rfl (pv 1)) (blkOk_by (by kernel_rfl)) (fun _ _ _ _ _ => (k_pg_tup (K := K) (n := 2) rfl rfl (pgs_cons (pg_name (i := 4) sc_open_logs.nd rfl (by first | exact Or.inl rfl | exact Or.inr rfl)) (pgs_cons (pg_name (i := 5) sc_open_logs.nd rfl (by first | exact Or.inl rfl | exact Or.inr rfl)) pgs_nil)))) (fun _ _ _ _ _ => pts_one (pt_val (pv 5))) (fun _ _ _ _ _ => (pe_callC C_parts_in hr (by omega) rfl (pa_cons (pv 2) (pa_cons (pv 4) pa_nil))))) pa_nil)))))), ?_⟩
  refine q_asg (c := c0) (K := K) (G := G) (φ := is (bsD false (rowsOf sh as))) (ev_pick wd sh (fun l => !((as.filter fun a => !a.2).any fun a => isPart l a.1)) wd (es_L (ev_var rfl d1)) (by omega) (fun _ => rfl) (fun x G1 v hx s1 dv => ?_) fun x G1 v hx s1 dv _ => ev_var rfl dv) hs trivial fun v3 d G1 H1 g1 _ dv3 e => ?_
  · refine et_not (et_B ((ev_any (bs := (as.filter fun a => !a.2).map fun a => isPart x a.1) ((ev_lc askD as (fun a => !a.2) (fun a => .bool (isPart x a.1)) (es_T (ev_var rfl (dp_mono s1 _ _ d2))) (by omega) fun a G2 va hxa s2 dva => ?_).to ?_)).to ?_))
    · exact lct_pair dva (fun _ _ => rfl) (fun u1 u2 h1 h2 => et_not (et_B (ev_var rfl h2))) fun u1 u2 h1 h2 _ => ev_call (x, a.1) (ea_cons (ev_var rfl (dp_mono s2 _ _ dv)) (ea_cons (ev_var rfl h1) ea_nil)) trivial
    · rw [List.map_map]
      rfl
    · rw [List.any_map]
      rfl
  · subst e
    refine st_ret (c := c0) (K := K) (G := G1) (φ := is (.tuple [bsD false (rowsOf sh as), .list ((nearOf sh as).map nrD)])) (ev_tup2 (ev_var rfl dv3) ((ev_lc askD as (fun a => a.2) (fun a => nrD (partsIn (rowsOf sh as) a.1)) (es_T (ev_var rfl (dp_mono g1.g _ _ d2))) (by omega) fun a G2 va hxa s2 dva => ?_).to ?_)) g1.s trivial fun v d G1 H1 g2 _ dv e => by subst e; exact k v G1 H1 (g1.trans g2) dv
    · exact lct_pair dva (fun _ _ => rfl) (fun u1 u2 h1 h2 => et_B (ev_var rfl h2)) fun u1 u2 h1 h2 _ => ev_call (rowsOf sh as, a.1) (ea_cons (ev_var rfl (dp_mono s2 _ _ dv3)) (ea_cons (ev_var rfl h1) ea_nil)) (by show (rowsOf sh as).length ≤ 100000; omega)
    · unfold nearOf
      rw [List.map_map]
      rfl
end
end Mk
/-! ## MkW4 -/
set_option autoImplicit true
set_option Elab.async false
set_option linter.all false
set_option maxRecDepth 100000
set_option maxHeartbeats 4000000
namespace Mk
open PySem PySem.Spec PyProof.Rows L2 MkM
def stepOf (st : List Wd) (a : Str) : List Wd := leO (st.map fun x => if x.take 1 = [a] then x.drop 1 else x)
/-- a, b = e, f and what follows -/
theorem q_par {i j : Nat} {ta tb : TE} {tz : TS} {D : Ends} {σ : St} {H : Hp} (h : ta σ H fun v H1 => tb σ H1 fun w H2 => ∃ v' w', [v, w] = [v', w'] ∧ tz D ((σ.set i (some v')).set j (some w')) H2) : tSeq (tPar i j (tCons ta (tCons tb tNil))) tz D σ H := h
section
variable {P : Program} {w : World} {K : PySem.W.Frag} {mg : Str → Option Value} {base : Heap}
/-! ### sure_by -/
-- slots: 0 log*, 1 rows, 2 near, 3 few
abbrev N_sure_by : List Str := ["log", "rows", "near", "few"]
theorem sc_sure_by : FnScope N_sure_by ["log", "rows", "near"] (defScope st_sure_by) := ⟨rfl, rfl, rfl, by decide +kernel, rfl, by decide +kernel, by decide +kernel⟩
theorem bd_sure_by : BindOk "sure_by" "sure_by" st_sure_by ["log", "rows", "near"] := fun _ _ _ _ _ _ us hl => match us, hl with | [_, _, _], _ => rfl
abbrev spSure (K : PySem.W.Frag) : Sp := spP K (fun i : Wd × List Wd × List (List Wd) => [wd i.1, bsD false i.2.1, .list (i.2.2.map nrD)]) (fun i => i.2.1.length ≤ 1000 ∧ i.2.2.length ≤ 1000 ∧ ∀ few ∈ i.2.2, few.length ≤ 1000) (fun i => optB (sureBy i.1 i.2.1 i.2.2))
theorem ok_sure_by (T : Txt K mg) : Callee P w K mg base 4 "sure_by" ["log", "rows", "near"] (spSure K) := by
  have C_does : Callee P w K mg base 3 "does" ["base", "log"] (spDoes K) := ok_does T
  have C_parts_in : Callee P w K mg base 3 "parts_in" ["rows", "log"] (spParts K) := ok_parts_in T
  refine callee_of T.f_sure_by T.g_sure_by sc_sure_by bd_sure_by (spP_len fun _ => rfl) fun cdv A outer s H vs Q E hr h => ?_
  obtain ⟨⟨l, rows, near⟩, G, hs, ha, ⟨h1, h2, h3⟩, k⟩ := h
  have h1 : rows.length ≤ 1000 := h1
  have h2 : near.length ≤ 1000 := h2
  obtain ⟨v1, v2, v3, rfl, d1, d2, d3⟩ := dpa_three ha
  refine ⟨_, (pss_cons (ps_if (pt_not (pt_val (pe_callC C_does hr (by omega) rfl (pa_cons (pv 1) (pa_cons (pv 0) pa_nil))))) (pss_one (ps_ret pe_bl)) pss_nil)
        (pss_one (ps_ret (pe_ifExp (pt_val (pe_callB (id := "any") (k_any (K := K) rfl rfl) (by rfl) T.b_any (by decide +kernel) (pa_cons (pe_lc (own := [("few", 3)]) rfl sc_sure_by.nd (k_pi_sq (K := K) rfl (pv 2)) (blkOk_by (by kernel_rfl)) (fun _ _ _ _ _ => (pg_name (i := 3) sc_sure_by.nd rfl (by first | exact Or.inl rfl | exact Or.inr rfl))) (fun _ _ _ _ _ => pts_nil) (fun _ _ _ _ _ => (pe_cmpR (k_eqP (K := K) rfl (Rm65 hr)) (pe_callC C_parts_in hr (by omega) rfl (pa_cons (pv 3) (pa_cons (pv 0) pa_nil))) (pv 3) (nomark _)))) pa_nil))) pe_bl pe_non)))), ?_⟩
  refine q_if (c := c0) (G := G) (φ := is (!does rows l)) (et_not (et_B (ev_call ((false, rows), l) (ea_cons (ev_var rfl d2) (ea_cons (ev_var rfl d1) ea_nil)) (by show rows.length ≤ 100000; omega)))) hs trivial fun b G1 H1 g1 _ hb => ?_
  subst hb
  cases hd : does rows l with
  | false =>
    refine st_ret (c := c0) (K := K) (G := G1) (φ := is (.bool false)) ev_bl g1.s trivial fun v d G2 H2 g2 _ dv e => ?_
    subst e
    refine k v G2 H2 (g1.trans g2) ?_
    show Dp K G2 v (optB (sureBy l rows near))
    unfold sureBy
    rw [hd]
    exact dv
  | true =>
    refine st_ret (c := c0) (K := K) (G := G1) (φ := is (optB (sureBy l rows near))) (ev_if (b := near.any fun few => decide (partsIn few l = few)) (et_B (ev_anyMap nrD near (fun few => decide (partsIn few l = few)) (es_L (ev_var rfl (dp_mono g1.g _ _ d3))) (by omega) (fun _ => rfl) fun few G2 v hx s2 dv => ?_)) (fun e => ?_) fun e => ?_) g1.s trivial fun v d G2 H2 g2 _ dv e => by subst e; exact k v G2 H2 (g1.trans g2) dv
    · exact ev_eqE (enc_bs false) (by omega) (ev_call (few, l) (ea_cons (ev_var rfl dv) (ea_cons (ev_var rfl (dp_mono (g1.g.trans s2) _ _ d1)) ea_nil)) (by have := h3 few hx; show few.length ≤ 100000; omega)) (ev_var rfl dv)
    · unfold sureBy
      rw [hd, if_pos rfl, if_pos e]
      exact ev_bl
    · unfold sureBy
      rw [hd, if_pos rfl, if_neg (by rw [e]; exact Bool.false_ne_true)]
      exact ev_non
/-! ### step -/
-- slots: 0 state, 1 name*, 2 word
abbrev N_step : List Str := ["state", "name", "word"]
theorem sc_step : FnScope N_step ["state", "name"] (defScope st_step) := ⟨rfl, rfl, rfl, by decide +kernel, rfl, by decide +kernel, by decide +kernel⟩
theorem bd_step : BindOk "step" "step" st_step ["state", "name"] := fun _ _ _ _ _ _ us hl => match us, hl with | [_, _], _ => rfl
abbrev spStep (K : PySem.W.Frag) : Sp := spP K (fun i : List Wd × Str => [bsD true i.1, .str i.2]) (fun i => i.1.length < 64 ∧ LB i.1) (fun i => bsD true (stepOf i.1 i.2))
theorem ok_step (T : Txt K mg) : Callee P w K mg base 5 "step" ["state", "name"] (spStep K) := by
  have C_base_of : Callee P w K mg base 4 "base_of" ["logs"] (spBase K) := ok_base_of T
  refine callee_of T.f_step T.g_step sc_step bd_step (spP_len fun _ => rfl) fun cdv A outer s H vs Q E hr h => ?_
  obtain ⟨⟨st, a⟩, G, hs, ha, ⟨h1, h2⟩, k⟩ := h
  have h1 : st.length < 64 := h1
  obtain ⟨v1, v2, rfl, d1, d2⟩ := dpa_two ha
  refine ⟨_, (pss_one (ps_ret (pe_callC C_base_of hr (by omega) rfl (pa_cons (pe_lc (own := [("word", 2)]) rfl sc_step.nd (k_pi_sq (K := K) rfl (pv 0)) (blkOk_by (by kernel_rfl)) (fun _ _ _ _ _ => (pg_name (i := 2) sc_step.nd rfl (by first | exact Or.inl rfl | exact Or.inr rfl))) (fun _ _ _ _ _ => pts_nil) (fun _ _ _ _ _ => (pe_ifExp (pt_cmpR (k_eqP (K := K) rfl (Rm65 hr)) (pe_slice (k_slT (K := K) rfl) (pv 2) po_none (po_some pe_int)) (pe_tup (pa_cons (pv 1) pa_nil)) (nomark _)) (pe_slice (k_slT (K := K) rfl) (pv 2) (po_some pe_int) po_none) (pv 2)))) pa_nil)))), ?_⟩
  refine st_ret (c := c0) (K := K) (G := G) (φ := is (bsD true (stepOf st a))) (ev_call (false, st.map fun x => if x.take 1 = [a] then x.drop 1 else x) (ea_cons ((ev_map wd st (fun x => wd (if x.take 1 = [a] then x.drop 1 else x)) (es_T (ev_var rfl d1)) (by omega) (fun _ => rfl) fun x G1 v hx s1 dv => ?_).to ?_) ea_nil) ?_) hs trivial fun v d G2 H2 g2 _ dv e => by subst e; exact k v G2 H2 g2 dv
  · refine ev_if (b := decide (x.take 1 = [a])) (et_test (ev_eqE enc_wd (by omega) ((ev_slT (ev_var rfl dv) eo_none (eo_some (K := K) (i := ((1 : Nat) : Int)) ev_int)).to ?_) (ev_tup1 (ev_var rfl (dp_mono s1 _ _ d2))))) (fun e => ?_) fun e => ?_
    · rw [cutD_map, cutD_to]
      rfl
    · rw [if_pos (of_decide_eq_true e)]
      refine (ev_slT (ev_var rfl dv) (eo_some (K := K) (i := ((1 : Nat) : Int)) ev_int) eo_none).to ?_
      rw [cutD_map, cutD_from]
      rfl
    · rw [if_neg (of_decide_eq_false e)]
      exact ev_var rfl dv
  · rw [show (bsD false (st.map fun x => if x.take 1 = [a] then x.drop 1 else x)) = .list ((st.map fun x => if x.take 1 = [a] then x.drop 1 else x).map wd) from rfl, List.map_map]
    rfl
  · refine ⟨by rw [List.length_map]; exact h1, by rw [List.length_map]; omega, fun l hl => ?_⟩
    obtain ⟨x, hx, rfl⟩ := List.mem_map.mp hl
    have := h2.2 x hx
    show (if x.take 1 = [a] then x.drop 1 else x).length ≤ 100000
    split
    · rw [List.length_drop]
      omega
    · exact this
/-! ### short_logs -/
-- slots: 0 names*, 1 most, 2 found, 3 level, 4 turn, 5 log, 6 name
abbrev N_short_logs : List Str := ["names", "most", "found", "level", "turn", "log", "name"]
theorem sc_short_logs : FnScope N_short_logs ["names", "most"] (defScope st_short_logs) := ⟨rfl, rfl, rfl, by decide +kernel, rfl, by decide +kernel, by decide +kernel⟩
theorem bd_short_logs : BindOk "short_logs" "short_logs" st_short_logs ["names", "most"] := fun _ _ _ _ _ _ us hl => match us, hl with | [_, _], _ => rfl
abbrev spShort (K : PySem.W.Frag) : Sp := spP K (fun i : List Str × Nat => [wd i.1, .int (i.2 : Int)]) (fun i => i.1.length ≤ 3 ∧ i.2 ≤ 3) (fun i => bsD false (shortOf i.1 i.2))
theorem lv_bound {names : List Str} (h : names.length ≤ 3) {n : Nat} (hn : n ≤ 3) : (lvN names n).length ≤ 27 := by
  rw [lvN_len]
  calc names.length ^ n ≤ 3 ^ n := Nat.pow_le_pow_left h n
    _ ≤ 3 ^ 3 := Nat.pow_le_pow_right (by omega) hn
theorem short_bound {names : List Str} (h : names.length ≤ 3) : ∀ {n : Nat}, n ≤ 3 → (shortOf names n).length ≤ 1 + n * 27
  | 0, _ => by simp [shortOf]
  | n + 1, hn => by
    show (shortOf names n ++ lvN names (n + 1)).length ≤ _
    rw [List.length_append]
    have := short_bound h (n := n) (by omega)
    have := lv_bound h hn
    omega
theorem ok_short_logs (T : Txt K mg) : Callee P w K mg base 1 "short_logs" ["names", "most"] (spShort K) := by
  refine callee_of T.f_short_logs T.g_short_logs sc_short_logs bd_short_logs (spP_len fun _ => rfl) fun cdv A outer s H vs Q E hr h => ?_
  obtain ⟨⟨names, most⟩, G, hs, ha, ⟨h1, h2⟩, k⟩ := h
  have h1 : names.length ≤ 3 := h1
  have h2 : most ≤ 3 := h2
  obtain ⟨v1, v2, rfl, d1, d2⟩ := dpa_two ha
  refine ⟨_, (pss_cons (ps_par (i := 2) (j := 3) (by rfl) sc_short_logs.nd rfl rfl (by decide) rfl rfl (pa_cons (pe_lst (pa_cons (pe_tup pa_nil) pa_nil)) (pa_cons (pe_lst (pa_cons (pe_tup pa_nil) pa_nil)) pa_nil)) (by rfl))
        (pss_cons (ps_for PassesOwn.never rfl (pi_range1 rfl T.b_range (pa_cons (pv 1) pa_nil)) (pg_name (i := 4) sc_short_logs.nd rfl (by first | exact Or.inl rfl | exact Or.inr rfl)) (pss_cons (ps_setLc2 (own := [("log", 5), ("name", 6)]) (i := 3) (vs1 := [6]) rfl sc_short_logs.nd rfl rfl (sw_true rfl rfl rfl (by decide +kernel)) (k_pi_sq (K := K) rfl (pv 3)) (blkOk_by (by kernel_rfl)) (by decide) (fun _ _ _ _ _ => (pg_name (i := 5) sc_short_logs.nd rfl (by first | exact Or.inl rfl | exact Or.inr rfl))) (fun _ _ _ _ _ => pts_nil) (fun _ _ _ _ _ => (k_pi_sq (K := K) rfl (pv 0))) (fun _ _ _ _ _ => (pg_name (i := 6) sc_short_logs.nd rfl (by first | exact Or.inl rfl | exact Or.inr rfl))) (fun _ _ _ _ _ => pts_nil) (fun _ _ _ _ _ => (pe_tup (k_star (K := K) rfl (pv 5) (pa_cons (pv 6) pa_nil)))))
        (pss_one (ps_expr (k_bm (K := K) rfl PySem.F.plainAttrs_list PySem.F.slot_list_extend PySem.F.type_list_extend mt_extend (pv 2) (pa_cons (pv 3) pa_nil))))))
        (pss_one (ps_ret (pv 2))))), ?_⟩
  have eL : ∀ G : Hp, EvL c0 K (tLst (tCons (tTup tNil) tNil)) (start N_short_logs [v1, v2]) G [wd []] := fun G => evL_lst (ex_cons (ev_tupX ex_nil (by simp)) ex_nil) (by simp)
  refine q_par ?_
  refine eL G G H (Same.refl G) hs trivial _ fun f G1 H1 hf g1 _ m1 => ?_
  refine eL G1 G1 H1 (Same.refl G1) g1.s trivial _ fun l G2 H2 hl g2 _ m2 => ?_
  refine ⟨.ref f, .ref l, rfl, ?_⟩
  have nlf : f ≠ l := fun e => by
    obtain ⟨_, acc, z, _⟩ := m1.ex
    rw [e, hl] at z
    cases z
  obtain ⟨G3, g3, k3, s3, n3⟩ := m2.know g2 hl g1.s
  have m3 : ML K f G3 H2 [wd []] := m1.grow0 g3
  refine q_forI (c := c0) (G := G3) (fun i : Nat => PyData.int (i : Int)) (List.range most) (es_range (ea_cons (ev_var rfl (dp_mono (g1.g.trans g3.g) _ _ d2)) ea_nil) (by omega)) g3.s trivial
    (fun i σ' G' H' => Grow B0 G H G' H' ∧ ML K f G' H' ((shortOf names i).map wd) ∧ ∃ l y4 y5 y6, KL K l G' ((lvN names i).map wd) ∧ σ' = [some v1, some v2, some (.ref f), some (.ref l), y4, y5, y6])
    (fun G4 H4 g _ => ⟨(g1.trans g3).trans g, m3.grow0 g, l, none, none, none, k3.mono g.g, rfl⟩) (fun i σ' G' H' h => h.1.s) ?_ ?_
  · rintro G0 hG i x σ' G' H' hx s0 ⟨g, m, l', y4, y5, y6, kl, rfl⟩ v G4 H4 g4 dv
    refine ⟨_, tg_name, ?_⟩
    have hi : i < most := by
      rcases Nat.lt_or_ge i most with z | z
      · exact z
      · rw [List.getElem?_eq_none (by rw [List.length_range]; exact z)] at hx
        cases hx
    have hb := lv_bound h1 (n := i) (by omega)
    have kl4 := kl.mono g4.g
    refine q_asgL (c := c0) (K := K) (G := G4) (ds := (lvN names (i + 1)).map wd) ?_ g4.s trivial fun p G5 H5 hp g5 _ k5 => ?_
    · have e : (lvN names (i + 1)).map wd = ((lvN names i).map fun l => names.map fun x => wd (l ++ [x])).flatten := by
        show (nextLv names (lvN names i)).map wd = _
        unfold nextLv
        rw [List.map_flatten, List.map_map]
        congr 1
        refine List.map_congr_left fun l _ => ?_
        show (names.map fun x => l ++ [x]).map wd = _
        rw [List.map_map]
        rfl
      rw [e]
      refine evL_lc2 wd PyData.str (lvN names i) names (fun l x => wd (l ++ [x])) (es_L (ev_var rfl kl4.dp)) (by
        have : (lvN names i).length * names.length ≤ 27 * 3 := Nat.mul_le_mul hb h1
        omega) fun l G6 v6 hl s6 dv6 => ⟨_, tg_name, rfl, es_T (ev_var rfl (dp_mono (((((g1.g.trans g3.g).trans hG).trans s0).trans g4.g).trans s6) _ _ d1)), fun y G7 v7 hy s7 dv7 => ⟨_, tg_name, rfl, ?_⟩⟩
      refine (ev_tupX (ex_star (t := true) (es := l.map .str) (ev_var rfl (dp_mono s7 _ _ dv6)) (ex_cons (ev_var rfl dv7) ex_nil)) ?_).to ?_
      · rw [List.length_append, List.length_map, (mem_lvN.mp hl).1]
        simp only [List.length_singleton]
        omega
      · show PyData.tuple _ = .tuple ((l ++ [y]).map .str)
        rw [List.map_append]
        rfl
    · have m5 := (m.grow0 g4).grow0 g5
      refine extK_core (c := c0) (ds := (shortOf names i).map wd) (es := (lvN names (i + 1)).map wd) rfl rfl m5 k5 g5.s trivial (fun z => z) ?_ fun H6 gr _ m6 s6 => ?_
      · have := short_bound h1 (n := i) (by omega)
        have := lv_bound h1 (n := i + 1) (by omega)
        rw [List.length_map, List.length_map]
        omega
      · refine ⟨G5, (s0.trans g4.g).trans g5.g, gr G H ((g.trans g4).trans g5) hf, ?_, p, some v, y5, y6, k5, rfl⟩
        show ML K f G5 H6 ((shortOf names i ++ lvN names (i + 1)).map wd)
        rw [List.map_append]
        exact m6
  · rintro σ' G' H' sg ⟨g, m, l', y4, y5, y6, kl, rfl⟩
    rw [List.length_range] at m
    obtain ⟨G2', g2', k2', _, _⟩ := m.know g hf hs
    exact st_ret (c := c0) (K := K) (φ := is (bsD false (shortOf names most))) (ev_var rfl k2'.dp) g2'.s trivial fun v d G1 H1 g1 _ dv e => by subst e; exact k v G1 H1 (g2'.trans g1) dv
end
end Mk
/-! ## MkW5 -/
set_option autoImplicit true
set_option Elab.async false
set_option linter.all false
set_option maxRecDepth 100000
set_option maxHeartbeats 4000000
namespace Mk
open PySem PySem.Spec PyProof.Rows L2 MkM
/-! ### the finder -/
structure Fd where
  names : List Str
  most : Nat
  asks : List AskT
abbrev Fd.short (f : Fd) : List Wd := shortOf f.names f.most
abbrev Fd.rows (f : Fd) : List Wd := rowsOf f.short f.asks
abbrev Fd.near (f : Fd) : List (List Wd) := nearOf f.short f.asks
def Fd.greatest (f : Fd) : List Wd := leO f.rows
def Fd.forced (f : Fd) : List Wd := (leO f.rows).filter fun x => decide ([x] ∈ f.near)
def Fd.left (f : Fd) : List Wd := (leO f.rows).filter fun x => !decide ([x] ∈ f.near)
def Fd.found (f : Fd) : Option (List Wd) := if f.forced = f.greatest then some f.greatest else none
def Fd.another (f : Fd) : Option (List Wd) := match f.left with | [] => none | g :: _ => some (leO (f.rows.filter fun l => !decide (l = g)))
def Fd.sure (f : Fd) (l : Wd) : Option Bool := sureBy l f.rows f.near
def Fd.next (f : Fd) : Option Wd := f.short.find? fun l => (sureBy l f.rows f.near).isNone
def Fd.put (f : Fd) (l : Wd) (b : Bool) : Fd := { f with asks := if (l, b) ∈ f.asks then f.asks else f.asks ++ [(l, b)] }
/-- within the lines -/
structure Fd.Ok (f : Fd) : Prop where
  names : f.names.length ≤ 3
  most : f.most ≤ 3
  asks : f.asks.length ≤ 500
def optW : Option Wd → PyData
  | none => .none
  | some l => wd l
def optBs : Option (List Wd) → PyData
  | none => .none
  | some b => bsD true b
theorem short_le (f : Fd) (h : f.Ok) : f.short.length ≤ 40 := by
  have h1 := h.names
  have h2 := h.most
  have e : ∀ n : Nat, n ≤ 3 → (shortOf f.names n).length ≤ 1 + (if 1 ≤ n then 3 else 0) + (if 2 ≤ n then 9 else 0) + (if 3 ≤ n then 27 else 0) := by
    have l1 : (lvN f.names 1).length ≤ 3 := by rw [lvN_len, Nat.pow_one]; exact h1
    have l2 : (lvN f.names 2).length ≤ 9 := by rw [lvN_len]; exact Nat.pow_le_pow_left h1 2
    have l3 : (lvN f.names 3).length ≤ 27 := by rw [lvN_len]; exact Nat.pow_le_pow_left h1 3
    have s1 : (shortOf f.names 1).length = 1 + (lvN f.names 1).length := by
      show (shortOf f.names 0 ++ lvN f.names 1).length = _
      rw [List.length_append]
      rfl
    have s2 : (shortOf f.names 2).length = 1 + (lvN f.names 1).length + (lvN f.names 2).length := by
      show (shortOf f.names 1 ++ lvN f.names 2).length = _
      rw [List.length_append, s1]
    have s3 : (shortOf f.names 3).length = 1 + (lvN f.names 1).length + (lvN f.names 2).length + (lvN f.names 3).length := by
      show (shortOf f.names 2 ++ lvN f.names 3).length = _
      rw [List.length_append, s2]
    intro n hn
    match n, hn with
    | 0, _ => simp [shortOf]
    | 1, _ => rw [s1]; simp; omega
    | 2, _ => rw [s2]; simp; omega
    | 3, _ => rw [s3]; simp; omega
  have := e f.most h2
  show (shortOf f.names f.most).length ≤ 40
  split at this <;> split at this <;> split at this <;> omega
theorem rows_le (f : Fd) (h : f.Ok) : f.rows.length ≤ 40 := Nat.le_trans (List.length_filter_le ..) (short_le f h)
theorem rows_sub (f : Fd) {l : Wd} (h : l ∈ f.rows) : l ∈ f.short := (List.mem_filter.mp h).1
theorem short_lw (f : Fd) (h : f.Ok) {l : Wd} (hl : l ∈ f.short) : Lw l := by
  have h1 := (mem_shortOf.mp hl).1
  have h2 := h.most
  show l.length ≤ 100000
  omega
theorem near_le (f : Fd) (h : f.Ok) : f.near.length ≤ 500 := by
  show (nearOf _ _).length ≤ 500
  unfold nearOf
  rw [List.length_map]
  exact Nat.le_trans (List.length_filter_le ..) h.asks
theorem few_le (f : Fd) (h : f.Ok) {few : List Wd} (hf : few ∈ f.near) : few.length ≤ 40 := by
  obtain ⟨a, _, rfl⟩ := List.mem_map.mp hf
  exact Nat.le_trans (List.length_filter_le ..) (rows_le f h)
/-- the fields -/
def fsF (v1 v2 v3 v4 v5 : V) : List (Str × V) := [("own_names", v1), ("own_most", v2), ("own_short", v3), ("own_asks", v4), ("own_whole", v5)]
structure FD (K : PySem.W.Frag) (f : Fd) (fs : List (Str × V)) (G : Hp) : Prop where
  ex : ∃ v1 v2 v3 v4 v5, fs = fsF v1 v2 v3 v4 v5 ∧ Dp K G v1 (wd f.names) ∧ Dp K G v2 (.int (f.most : Int)) ∧ Dp K G v3 (bsD false f.short) ∧ Dp K G v4 (.tuple (f.asks.map askD))
section
variable {K : PySem.W.Frag} {c : Ctx} {σ : St} {G G' H G1 H1 : Hp} {f : Fd} {fs : List (Str × V)} {a : Addr} {i : Nat} {φ : PyData → Prop} {tz : TS} {D : Ends}
theorem FD.mono (h : FD K f fs G) (s : Same G G') : FD K f fs G' := by
  obtain ⟨v1, v2, v3, v4, v5, e, h1, h2, h3, h4⟩ := h.ex
  exact ⟨v1, v2, v3, v4, v5, e, dp_mono s _ _ h1, dp_mono s _ _ h2, dp_mono s _ _ h3, dp_mono s _ _ h4⟩
abbrev cF (c : Ctx) (K : PySem.W.Frag) (a : Addr) (fs : List (Str × V)) : Ctx := cN c a (FC K) fs
theorem ev_names {mg : Str → Option Value} (T : Txt K mg) (hi : σ[i]? = some (some (.ref a))) (h : FD K f fs G) : Ev (cF c K a fs) K (tFld K (tVar i) "own_names") σ G (is (wd f.names)) := by
  obtain ⟨v1, v2, v3, v4, v5, rfl, h1, h2, h3, h4⟩ := h.ex
  exact ev_fldN hi T.cl T.n_own_names rfl h1
theorem ev_most {mg : Str → Option Value} (T : Txt K mg) (hi : σ[i]? = some (some (.ref a))) (h : FD K f fs G) : Ev (cF c K a fs) K (tFld K (tVar i) "own_most") σ G (is (.int (f.most : Int))) := by
  obtain ⟨v1, v2, v3, v4, v5, rfl, h1, h2, h3, h4⟩ := h.ex
  exact ev_fldN hi T.cl T.n_own_most rfl h2
theorem ev_short {mg : Str → Option Value} (T : Txt K mg) (hi : σ[i]? = some (some (.ref a))) (h : FD K f fs G) : Ev (cF c K a fs) K (tFld K (tVar i) "own_short") σ G (is (bsD false f.short)) := by
  obtain ⟨v1, v2, v3, v4, v5, rfl, h1, h2, h3, h4⟩ := h.ex
  exact ev_fldN hi T.cl T.n_own_short rfl h3
theorem ev_asks {mg : Str → Option Value} (T : Txt K mg) (hi : σ[i]? = some (some (.ref a))) (h : FD K f fs G) : Ev (cF c K a fs) K (tFld K (tVar i) "own_asks") σ G (is (.tuple (f.asks.map askD))) := by
  obtain ⟨v1, v2, v3, v4, v5, rfl, h1, h2, h3, h4⟩ := h.ex
  exact ev_fldN hi T.cl T.n_own_asks rfl h4
/-- a method that reads alone -/
def spF (K : PySem.W.Frag) {ι : Type} (args : ι → List PyData) (pre : Fd → ι → Prop) (res : Fd → ι → PyData) : Sp := fun vs H Q _ => ∃ a dx fs ws f i G, vs = .ref a :: ws ∧ Same G H ∧ H a = some (.ins (FC K) dx fs) ∧ FD K f fs G ∧ DpAll K G ws (args i) ∧ f.Ok ∧ pre f i ∧
  ∀ v G1 H1, Grow B0 G H G1 H1 → Dp K G1 v (res f i) → Q v H1
theorem spF_len {ι : Type} {args : ι → List PyData} {pre : Fd → ι → Prop} {res : Fd → ι → PyData} {n : Nat} (hn : ∀ i, (args i).length = n) : ∀ vs H Q E, spF K args pre res vs H Q E → vs.length = n + 1 := by
  rintro vs H Q E ⟨a, dx, fs, ws, f, i, G, rfl, _, _, _, h, _⟩
  rw [List.length_cons, dpa_len h, hn]
theorem FD.meths (h : FD K f fs G) {m : Str} (hm : m ≠ "own_names" ∧ m ≠ "own_most" ∧ m ≠ "own_short" ∧ m ≠ "own_asks" ∧ m ≠ "own_whole") : fs.lookup m = none := by
  obtain ⟨v1, v2, v3, v4, v5, rfl, _⟩ := h.ex
  obtain ⟨h1, h2, h3, h4, h5⟩ := hm
  unfold fsF
  have e : ∀ x : Str, m ≠ x → (m == x) = false := fun x hx => beq_eq_false_iff_ne.mpr hx
  rw [List.lookup_cons, e _ h1, List.lookup_cons, e _ h2, List.lookup_cons, e _ h3, List.lookup_cons, e _ h4, List.lookup_cons, e _ h5]
  rfl
theorem ev_meth {ι : Type} {args : ι → List PyData} {pre : Fd → ι → Prop} {res : Fd → ι → PyData} {m : Str} {E : XK} {t : TA} (i0 : ι) (hi : σ[i]? = some (some (.ref a))) (h : FD K f fs G) (ho : f.Ok) (hm : m ≠ "own_names" ∧ m ≠ "own_most" ∧ m ≠ "own_short" ∧ m ≠ "own_asks" ∧ m ≠ "own_whole")
    (ha : EA (cF c K a fs) K t σ G (dats (args i0))) (hp : pre f i0) : Ev (cF c K a fs) K (tMeth (FC K) m (spF K args pre res) [] E (tVar i) t) σ G (is (res f i0)) :=
  fun G0 H x y j Q q => by
    obtain ⟨dx, hx⟩ := j.2
    refine ⟨.ref a, hi, a, dx, fs, rfl, hx, h.meths hm, ha G0 H x y j _ fun vs G1 H1 g1 j1 p1 => ?_⟩
    obtain ⟨dx1, hx1⟩ := j1.2
    rw [List.append_nil]
    exact ⟨a, dx1, fs, vs, f, i0, G1, rfl, g1.s, hx1, h.mono (x.trans g1.g), agOk_dats p1, ho, hp, fun v G2 H2 g2 d2 => q v _ G2 H2 (g1.trans g2.wide) ((cF c K a fs).same j1 g2.same) d2 rfl⟩
end
section
variable {P : Program} {w : World} {K : PySem.W.Frag} {mg : Str → Option Value} {base : Heap}
/-! ### check -/
-- slots: 0 self, 1 log, 2 name
abbrev N_F_check : List Str := ["self", "log", "name"]
theorem sc_F_check : FnScope N_F_check ["self", "log"] (defScope st_F_check) := ⟨rfl, rfl, rfl, by decide +kernel, rfl, by decide +kernel, by decide +kernel⟩
theorem bd_F_check : BindOk "check" "Finder.check" st_F_check ["self", "log"] := fun _ _ _ _ _ _ us hl => match us, hl with | [_, _], _ => rfl
abbrev spCheck (K : PySem.W.Frag) : Sp := spF K (fun l : Wd => [wd l]) (fun f l => ∀ x ∈ l, x ∈ f.names) (fun _ l => wd l)
theorem ok_F_check (T : Txt K mg) : MCallee P w K mg base 1 (FC K) "check" ["self", "log"] (spCheck K) := by
  refine mcallee_of T.f_F_check T.m_F_check sc_F_check bd_F_check (spF_len fun _ => rfl) fun cdv A outer s H vs Q E hr h => ?_
  obtain ⟨a, dx, fs, ws, f, l, G, rfl, hs, hx, hd, ha, ho, hp, k⟩ := h
  obtain ⟨v1, rfl, d1⟩ := dpa_one ha
  have j0 : (cF c0 K a fs).J H := ⟨trivial, dx, hx⟩
  refine ⟨_, (pss_cons (ps_for PassesOwn.never rfl (k_pi_sq (K := K) rfl (pv 1)) (pg_name (i := 2) sc_F_check.nd rfl (by first | exact Or.inl rfl | exact Or.inr rfl)) (pss_one (ps_if (pt_cmpR (k_niP (K := K) rfl (Rm65 hr)) (pv 2) (k_fld (K := K) rfl (pv 0) rfl) (by rfl)) pss_never pss_nil)))
        (pss_one (ps_ret (pe_callTy (T := "tuple") (k_tuple (K := K) rfl) (by rfl) T.b_tuple (by decide +kernel) (pa_cons (pv 1) pa_nil))))), ?_⟩
  refine q_forI (c := cF c0 K a fs) (G := G) PyData.str l (es_T (ev_var rfl d1)) hs j0
    (fun i σ' G' H' => Grow B0 G H G' H' ∧ ∃ y2, σ' = [some (.ref a), some v1, y2])
    (fun G1 H1 g _ => ⟨g, none, rfl⟩) (fun i σ' G' H' h => h.1.s) ?_ ?_
  · rintro G0 hG i x σ' G' H' hx s0 ⟨g, y2, rfl⟩ v G1 H1 g1 dv
    refine ⟨_, tg_name, ?_⟩
    have gg := g.trans g1
    refine st_if (c := cF c0 K a fs) (G := G1) (φ := is (!decide (x ∈ f.names))) (et_test (ev_niE (t := true) (l := f.names) enc_str (by omega) (ev_var rfl dv) (ev_names T rfl (hd.mono gg.g)))) g1.s ((cF c0 K a fs).same j0 gg.same) fun b G2 H2 g2 _ hb => ?_
    have hin : x ∈ f.names := hp x (List.mem_of_getElem? hx)
    have hb : b = !decide (x ∈ f.names) := hb
    rw [decide_eq_true hin] at hb
    subst hb
    exact ⟨G2, (s0.trans g1.g).trans g2.g, gg.trans g2, some v, rfl⟩
  · rintro σ' G' H' sg ⟨g, y2, rfl⟩
    exact st_ret (c := c0) (K := K) (φ := is (wd l)) (ev_tupleT (ev_var rfl (dp_mono g.g _ _ d1))) g.s trivial fun v d G1 H1 g1 _ dv e => by subst e; exact k v G1 H1 (g.trans g1) dv
/-! ### the ones that read -/
-- slots: 0 self, 1 rows, 2 near
abbrev N_F_greatest : List Str := ["self", "rows", "near"]
theorem sc_F_greatest : FnScope N_F_greatest ["self"] (defScope st_F_greatest) := ⟨rfl, rfl, rfl, by decide +kernel, rfl, by decide +kernel, by decide +kernel⟩
theorem bd_F_greatest : BindOk "greatest" "Finder.greatest" st_F_greatest ["self"] := fun _ _ _ _ _ _ us hl => match us, hl with | [_], _ => rfl
abbrev spGreatest (K : PySem.W.Frag) : Sp := spF K (fun _ : Unit => []) (fun _ _ => True) (fun f _ => bsD true f.greatest)
theorem ok_F_greatest (T : Txt K mg) : MCallee P w K mg base 5 (FC K) "greatest" ["self"] (spGreatest K) := by
  have C_open_logs : Callee P w K mg base 4 "open_logs" ["short", "asks"] (spOpen K) := ok_open_logs T
  have C_least_of : Callee P w K mg base 3 "least_of" ["logs"] (spLeast K) := ok_least_of T
  refine mcallee_of T.f_F_greatest T.m_F_greatest sc_F_greatest bd_F_greatest (spF_len fun _ => rfl) fun cdv A outer s H vs Q E hr h => ?_
  obtain ⟨a, dx, fs, ws, f, u, G, rfl, hs, hx, hd, ha, ho, hp, k⟩ := h
  have e := dpa_len ha
  have e : ws = [] := List.length_eq_zero_iff.mp e
  subst e
  have j0 : (cF c0 K a fs).J H := ⟨trivial, dx, hx⟩
  have hsl := short_le f ho
  have hrl := rows_le f ho
  refine ⟨_, (pss_cons (ps_asg (pe_callC C_open_logs hr (by omega) rfl (pa_cons (k_fld (K := K) rfl (pv 0) rfl) (pa_cons (k_fld (K := K) rfl (pv 0) rfl) pa_nil))) (k_pg_tup (K := K) (n := 2) rfl rfl (pgs_cons (pg_name (i := 1) sc_F_greatest.nd rfl (by first | exact Or.inl rfl | exact Or.inr rfl)) (pgs_cons (pg_name (i := 2) sc_F_greatest.nd rfl (by first | exact Or.inl rfl | exact Or.inr rfl)) pgs_nil))))
        (pss_one (ps_ret (pe_callC C_least_of hr (by omega) rfl (pa_cons (pv 1) pa_nil))))), ?_⟩
  refine q_asg2 (c := cF c0 K a fs) (K := K) (G := G) (φ := is (bsD false f.rows)) (ψ := is (.list (f.near.map nrD))) ((ev_call (f.short, f.asks) (ea_cons (ev_short T rfl hd) (ea_cons (ev_asks T rfl hd) ea_nil)) ⟨by show f.short.length ≤ 1000; omega, by have := ho.asks; show f.asks.length ≤ 1000; omega⟩).imp fun d e => ⟨_, _, e, rfl, rfl⟩) hs j0 fun v1 v2 d1 d2 G1 H1 g1 _ dv1 dv2 e1 e2 => ?_
  subst e1 e2
  exact st_ret (c := c0) (K := K) (φ := is (bsD true f.greatest)) (ev_call (false, f.rows) (ea_cons (ev_var rfl dv1) ea_nil) (by show f.rows.length < 64; omega)) g1.s trivial fun v d G2 H2 g2 _ dv e => by subst e; exact k v G2 H2 (Grow.trans g1 g2) dv
-- slots: 0 self, 1 rows, 2 near*, 3 word
abbrev N_F_forced : List Str := ["self", "rows", "near", "word"]
theorem sc_F_forced : FnScope N_F_forced ["self"] (defScope st_F_forced) := ⟨rfl, rfl, rfl, by decide +kernel, rfl, by decide +kernel, by decide +kernel⟩
theorem bd_F_forced : BindOk "forced" "Finder.forced" st_F_forced ["self"] := fun _ _ _ _ _ _ us hl => match us, hl with | [_], _ => rfl
abbrev spForced (K : PySem.W.Frag) : Sp := spF K (fun _ : Unit => []) (fun _ _ => True) (fun f _ => bsD true f.forced)
theorem ok_F_forced (T : Txt K mg) : MCallee P w K mg base 5 (FC K) "forced" ["self"] (spForced K) := by
  have C_open_logs : Callee P w K mg base 4 "open_logs" ["short", "asks"] (spOpen K) := ok_open_logs T
  have C_least_of : Callee P w K mg base 3 "least_of" ["logs"] (spLeast K) := ok_least_of T
  refine mcallee_of T.f_F_forced T.m_F_forced sc_F_forced bd_F_forced (spF_len fun _ => rfl) fun cdv A outer s H vs Q E hr h => ?_
  obtain ⟨a, dx, fs, ws, f, u, G, rfl, hs, hx, hd, ha, ho, hp, k⟩ := h
  have e := dpa_len ha
  have e : ws = [] := List.length_eq_zero_iff.mp e
  subst e
  have j0 : (cF c0 K a fs).J H := ⟨trivial, dx, hx⟩
  have hsl := short_le f ho
  have hrl := rows_le f ho
  have hll := leO_len f.rows
  refine ⟨_, (pss_cons (ps_asg (pe_callC C_open_logs hr (by omega) rfl (pa_cons (k_fld (K := K) rfl (pv 0) rfl) (pa_cons (k_fld (K := K) rfl (pv 0) rfl) pa_nil))) (k_pg_tup (K := K) (n := 2) rfl rfl (pgs_cons (pg_name (i := 1) sc_F_forced.nd rfl (by first | exact Or.inl rfl | exact Or.inr rfl)) (pgs_cons (pg_name (i := 2) sc_F_forced.nd rfl (by first | exact Or.inl rfl | exact Or.inr rfl)) pgs_nil))))
        (pss_one (ps_ret (pe_callTy (T := "tuple") (k_tuple (K := K) rfl) (by rfl) T.b_tuple (by decide +kernel) (pa_cons (pe_lc (own := [("word", 3)]) rfl sc_F_forced.nd (k_pi_sq (K := K) rfl (pe_callC C_least_of hr (by omega) rfl (pa_cons (pv 1) pa_nil))) (blkOk_by (by kernel_rfl)) (fun _ _ _ _ _ => (pg_name (i := 3) sc_F_forced.nd rfl (by first | exact Or.inl rfl | exact Or.inr rfl))) (fun _ _ _ _ _ => pts_one (pt_cmpR (k_inP (K := K) rfl (Rm65 hr)) (pe_lst (pa_cons (pv 3) pa_nil)) (pv 2) (by rfl))) (fun _ _ _ _ _ => (pv 3))) pa_nil))))), ?_⟩
  refine q_asg2 (c := cF c0 K a fs) (K := K) (G := G) (φ := is (bsD false f.rows)) (ψ := is (.list (f.near.map nrD))) ((ev_call (f.short, f.asks) (ea_cons (ev_short T rfl hd) (ea_cons (ev_asks T rfl hd) ea_nil)) ⟨by show f.short.length ≤ 1000; omega, by have := ho.asks; show f.asks.length ≤ 1000; omega⟩).imp fun d e => ⟨_, _, e, rfl, rfl⟩) hs j0 fun v1 v2 d1 d2 G1 H1 g1 _ dv1 dv2 e1 e2 => ?_
  subst e1 e2
  refine st_ret (c := c0) (K := K) (φ := is (bsD true f.forced)) (ev_tupleL (ev_pick wd (leO f.rows) (fun x => decide ([x] ∈ f.near)) wd (es_T (ev_call (false, f.rows) (ea_cons (ev_var rfl dv1) ea_nil) (by show f.rows.length < 64; omega))) (by omega) (fun _ => rfl) (fun x G2 v hx s2 dv => ?_) fun x G2 v hx s2 dv _ => ev_var rfl dv)) g1.s trivial fun v d G2 H2 g2 _ dv e => by subst e; exact k v G2 H2 (Grow.trans g1 g2) dv
  exact et_test (ev_inE (t := false) (x := [x]) (l := f.near) (enc_bs false) (by omega) (ev_lst1 (ev_var rfl dv)) (ev_var rfl (dp_mono s2 _ _ dv2)))
-- slots: 0 self, 1 greatest
abbrev N_F_found : List Str := ["self", "greatest"]
theorem sc_F_found : FnScope N_F_found ["self"] (defScope st_F_found) := ⟨rfl, rfl, rfl, by decide +kernel, rfl, by decide +kernel, by decide +kernel⟩
theorem bd_F_found : BindOk "found" "Finder.found" st_F_found ["self"] := fun _ _ _ _ _ _ us hl => match us, hl with | [_], _ => rfl
abbrev spFound (K : PySem.W.Frag) : Sp := spF K (fun _ : Unit => []) (fun _ _ => True) (fun f _ => optBs f.found)
theorem ok_F_found (T : Txt K mg) : MCallee P w K mg base 6 (FC K) "found" ["self"] (spFound K) := by
  have C_F_greatest : MCallee P w K mg base 5 (FC K) "greatest" ["self"] (spGreatest K) := ok_F_greatest T
  have C_F_forced : MCallee P w K mg base 5 (FC K) "forced" ["self"] (spForced K) := ok_F_forced T
  refine mcallee_of T.f_F_found T.m_F_found sc_F_found bd_F_found (spF_len fun _ => rfl) fun cdv A outer s H vs Q E hr h => ?_
  obtain ⟨a, dx, fs, ws, f, u, G, rfl, hs, hx, hd, ha, ho, hp, k⟩ := h
  have e := dpa_len ha
  have e : ws = [] := List.length_eq_zero_iff.mp e
  subst e
  have j0 : (cF c0 K a fs).J H := ⟨trivial, dx, hx⟩
  refine ⟨_, (pss_cons (ps_set (i := 1) sc_F_found.nd rfl (by first | exact Or.inl rfl | exact Or.inr rfl) (pe_methC0 C_F_greatest (pv 0) T.cl hr (by omega)))
        (pss_one (ps_ret (pe_ifExp (pt_cmpR (k_eqP (K := K) rfl (Rm65 hr)) (pe_methC0 C_F_forced (pv 0) T.cl hr (by omega)) (pv 1) (nomark _)) (pv 1) pe_non)))), ?_⟩
  refine q_asg (c := cF c0 K a fs) (K := K) (G := G) (φ := is (bsD true f.greatest)) (ev_meth () rfl hd ho (by decide +kernel) ea_nil trivial) hs j0 fun v1 d1 G1 H1 g1 j1 dv1 e1 => ?_
  subst e1
  refine st_ret (c := cF c0 K a fs) (K := K) (φ := is (optBs f.found)) (ev_if (b := decide (f.forced = f.greatest)) (et_test (ev_eqE (enc_bs true) (by omega) (ev_meth () rfl (hd.mono g1.g) ho (by decide +kernel) ea_nil trivial) (ev_var rfl dv1))) (fun e => ?_) fun e => ?_) g1.s j1 fun v d G2 H2 g2 _ dv e => by subst e; exact k v G2 H2 (Grow.trans g1 g2) dv
  · unfold Fd.found
    rw [if_pos (of_decide_eq_true e)]
    exact ev_var rfl dv1
  · unfold Fd.found
    rw [if_neg (of_decide_eq_false e)]
    exact ev_non
-- slots: 0 self, 1 rows, 2 near*, 3 left*, 4 word, 5 log
abbrev N_F_another : List Str := ["self", "rows", "near", "left", "word", "log"]
theorem sc_F_another : FnScope N_F_another ["self"] (defScope st_F_another) := ⟨rfl, rfl, rfl, by decide +kernel, rfl, by decide +kernel, by decide +kernel⟩
theorem bd_F_another : BindOk "another" "Finder.another" st_F_another ["self"] := fun _ _ _ _ _ _ us hl => match us, hl with | [_], _ => rfl
abbrev spAnother (K : PySem.W.Frag) : Sp := spF K (fun _ : Unit => []) (fun _ _ => True) (fun f _ => optBs f.another)
theorem ok_F_another (T : Txt K mg) : MCallee P w K mg base 5 (FC K) "another" ["self"] (spAnother K) := by
  have C_open_logs : Callee P w K mg base 4 "open_logs" ["short", "asks"] (spOpen K) := ok_open_logs T
  have C_least_of : Callee P w K mg base 3 "least_of" ["logs"] (spLeast K) := ok_least_of T
  have C_base_of : Callee P w K mg base 4 "base_of" ["logs"] (spBase K) := ok_base_of T
  refine mcallee_of T.f_F_another T.m_F_another sc_F_another bd_F_another (spF_len fun _ => rfl) fun cdv A outer s H vs Q E hr h => ?_
  obtain ⟨a, dx, fs, ws, f, u, G, rfl, hs, hx, hd, ha, ho, hp, k⟩ := h
  have e := dpa_len ha
  have e : ws = [] := List.length_eq_zero_iff.mp e
  subst e
  have j0 : (cF c0 K a fs).J H := ⟨trivial, dx, hx⟩
  have hsl := short_le f ho
  have hrl := rows_le f ho
  have hll := leO_len f.rows
  refine ⟨_, (pss_cons (ps_asg (pe_callC C_open_logs hr (by omega) rfl (pa_cons (k_fld (K := K) rfl (pv 0) rfl) (pa_cons (k_fld (K := K) rfl (pv 0) rfl) pa_nil))) (k_pg_tup (K := K) (n := 2) rfl rfl (pgs_cons (pg_name (i := 1) sc_F_another.nd rfl (by first | exact Or.inl rfl | exact Or.inr rfl)) (pgs_cons (pg_name (i := 2) sc_F_another.nd rfl (by first | exact Or.inl rfl | exact Or.inr rfl)) pgs_nil))))
        (pss_cons (ps_set (i := 3) sc_F_another.nd rfl (by first | exact Or.inl rfl | exact Or.inr rfl) (pe_lc (own := [("word", 4)]) rfl sc_F_another.nd (k_pi_sq (K := K) rfl (pe_callC C_least_of hr (by omega) rfl (pa_cons (pv 1) pa_nil))) (blkOk_by (by kernel_rfl)) (fun _ _ _ _ _ => (pg_name (i := 4) sc_F_another.nd rfl (by first | exact Or.inl rfl | exact Or.inr rfl))) (fun _ _ _ _ _ => pts_one (pt_cmpR (k_niP (K := K) rfl (Rm65 hr)) (pe_lst (pa_cons (pv 4) pa_nil)) (pv 2) (by rfl))) (fun _ _ _ _ _ => (pv 4))))
        (pss_one (ps_ret (pe_ifExp (pt_cmpR op_gt (pe_callB (id := "len") (k_len (K := K) rfl) (by rfl) T.b_len (by decide +kernel) (pa_cons (pv 3) pa_nil)) pe_int (nomark _)) (pe_callC C_base_of hr (by omega) rfl (pa_cons (pe_lc (own := [("log", 5)]) rfl sc_F_another.nd (k_pi_sq (K := K) rfl (pv 1)) (blkOk_by (by kernel_rfl)) (fun _ _ _ _ _ => (pg_name (i := 5) sc_F_another.nd rfl (by first | exact Or.inl rfl | exact Or.inr rfl))) (fun _ _ _ _ _ => pts_one (pt_cmpR (k_neP (K := K) rfl (Rm65 hr)) (pv 5) (pe_ix (k_ixL (K := K) rfl) (pv 3) pe_int (fun _ _ => rfl)) (nomark _))) (fun _ _ _ _ _ => (pv 5))) pa_nil)) pe_non))))), ?_⟩
  refine q_asg2 (c := cF c0 K a fs) (K := K) (G := G) (φ := is (bsD false f.rows)) (ψ := is (.list (f.near.map nrD))) ((ev_call (f.short, f.asks) (ea_cons (ev_short T rfl hd) (ea_cons (ev_asks T rfl hd) ea_nil)) ⟨by show f.short.length ≤ 1000; omega, by have := ho.asks; show f.asks.length ≤ 1000; omega⟩).imp fun d e => ⟨_, _, e, rfl, rfl⟩) hs j0 fun v1 v2 d1 d2 G1 H1 g1 _ dv1 dv2 e1 e2 => ?_
  subst e1 e2
  refine q_asg (c := c0) (K := K) (φ := is (bsD false f.left)) (ev_pick wd (leO f.rows) (fun x => !decide ([x] ∈ f.near)) wd (es_T (ev_call (false, f.rows) (ea_cons (ev_var rfl dv1) ea_nil) (by show f.rows.length < 64; omega))) (by omega) (fun _ => rfl) (fun x G2 v hx s2 dv => ?_) fun x G2 v hx s2 dv _ => ev_var rfl dv) g1.s trivial fun v3 d3 G3 H3 g3 _ dv3 e3 => ?_
  · exact et_test (ev_niE (t := false) (x := [x]) (l := f.near) (enc_bs false) (by omega) (ev_lst1 (ev_var rfl dv)) (ev_var rfl (dp_mono s2 _ _ dv2)))
  · subst e3
    refine st_ret (c := c0) (K := K) (φ := is (optBs f.another)) (ev_if (b := decide (0 < f.left.length)) (et_test ((ev_I0 (ev_lenL (ev_var rfl dv3)) ev_int (fun _ => .bl _)).to ?_)) (fun e => ?_) fun e => ?_) g3.s trivial fun v d G2 H2 g2 _ dv e => by subst e; exact k v G2 H2 ((Grow.trans g1 g3).trans g2) dv
    · rw [List.length_map]
      exact congrArg PyData.bool (decide_eq_decide.mpr (by omega))
    · have e : 0 < f.left.length := of_decide_eq_true e
      unfold Fd.another
      cases hl : f.left with
      | nil => rw [hl] at e; exact absurd e (Nat.lt_irrefl _)
      | cons g r =>
        refine ev_call (false, f.rows.filter fun l => !decide (l = g)) (ea_cons (ev_pick wd f.rows (fun l => !decide (l = g)) wd (es_L (ev_var rfl (dp_mono g3.g _ _ dv1))) (by omega) (fun _ => rfl) (fun x G2 v hx s2 dv => ?_) fun x G2 v hx s2 dv _ => ev_var rfl dv) ea_nil) ?_
        · rw [hl] at dv3
          exact et_test (ev_neE enc_wd (by omega) (ev_var rfl dv) (ev_ixL (i := 0) (ev_var rfl (dp_mono s2 _ _ dv3)) ev_int rfl))
        · have := List.length_filter_le (fun l => !decide (l = g)) f.rows
          refine ⟨by show (f.rows.filter _).length < 64; omega, by show (f.rows.filter _).length ≤ 100000; omega, fun l hl => short_lw f ho (rows_sub f (List.mem_filter.mp hl).1)⟩
    · have e : ¬ 0 < f.left.length := of_decide_eq_false e
      unfold Fd.another
      cases hl : f.left with
      | nil => exact ev_non
      | cons g r => rw [hl] at e; exact absurd (Nat.succ_pos _) e
-- slots: 0 self, 1 log, 2 own, 3 rows, 4 near
abbrev N_F_sure : List Str := ["self", "log", "own", "rows", "near"]
theorem sc_F_sure : FnScope N_F_sure ["self", "log"] (defScope st_F_sure) := ⟨rfl, rfl, rfl, by decide +kernel, rfl, by decide +kernel, by decide +kernel⟩
theorem bd_F_sure : BindOk "sure" "Finder.sure" st_F_sure ["self", "log"] := fun _ _ _ _ _ _ us hl => match us, hl with | [_, _], _ => rfl
abbrev spSureM (K : PySem.W.Frag) : Sp := spF K (fun l : Wd => [wd l]) (fun f l => ∀ x ∈ l, x ∈ f.names) (fun f l => optB (f.sure l))
theorem ok_F_sure (T : Txt K mg) : MCallee P w K mg base 5 (FC K) "sure" ["self", "log"] (spSureM K) := by
  have C_open_logs : Callee P w K mg base 4 "open_logs" ["short", "asks"] (spOpen K) := ok_open_logs T
  have C_sure_by : Callee P w K mg base 4 "sure_by" ["log", "rows", "near"] (spSure K) := ok_sure_by T
  have C_F_check : MCallee P w K mg base 1 (FC K) "check" ["self", "log"] (spCheck K) := ok_F_check T
  refine mcallee_of T.f_F_sure T.m_F_sure sc_F_sure bd_F_sure (spF_len fun _ => rfl) fun cdv A outer s H vs Q E hr h => ?_
  obtain ⟨a, dx, fs, ws, f, l, G, rfl, hs, hx, hd, ha, ho, hp, k⟩ := h
  obtain ⟨v1, rfl, d1⟩ := dpa_one ha
  have j0 : (cF c0 K a fs).J H := ⟨trivial, dx, hx⟩
  have hsl := short_le f ho
  have hrl := rows_le f ho
  refine ⟨_, (pss_cons (ps_set (i := 2) sc_F_sure.nd rfl (by first | exact Or.inl rfl | exact Or.inr rfl) (pe_methC C_F_check (pv 0) T.cl hr (by omega) (pa_cons (pv 1) pa_nil)))
        (pss_cons (ps_asg (pe_callC C_open_logs hr (by omega) rfl (pa_cons (k_fld (K := K) rfl (pv 0) rfl) (pa_cons (k_fld (K := K) rfl (pv 0) rfl) pa_nil))) (k_pg_tup (K := K) (n := 2) rfl rfl (pgs_cons (pg_name (i := 3) sc_F_sure.nd rfl (by first | exact Or.inl rfl | exact Or.inr rfl)) (pgs_cons (pg_name (i := 4) sc_F_sure.nd rfl (by first | exact Or.inl rfl | exact Or.inr rfl)) pgs_nil))))
        (pss_one (ps_ret (pe_callC C_sure_by hr (by omega) rfl (pa_cons (pv 2) (pa_cons (pv 3) (pa_cons (pv 4) pa_nil)))))))), ?_⟩
  refine q_asg (c := cF c0 K a fs) (K := K) (G := G) (φ := is (wd l)) (ev_meth l rfl hd ho (by decide +kernel) (ea_cons (ev_var rfl d1) ea_nil) hp) hs j0 fun v2 d2 G1 H1 g1 j1 dv2 e1 => ?_
  subst e1
  have hd1 := hd.mono g1.g
  refine q_asg2 (c := cF c0 K a fs) (K := K) (G := G1) (φ := is (bsD false f.rows)) (ψ := is (.list (f.near.map nrD))) ((ev_call (f.short, f.asks) (ea_cons (ev_short T rfl hd1) (ea_cons (ev_asks T rfl hd1) ea_nil)) ⟨by show f.short.length ≤ 1000; omega, by have := ho.asks; show f.asks.length ≤ 1000; omega⟩).imp fun d e => ⟨_, _, e, rfl, rfl⟩) g1.s j1 fun v3 v4 d3 d4 G2 H2 g2 _ dv3 dv4 e1 e2 => ?_
  subst e1 e2
  exact st_ret (c := c0) (K := K) (φ := is (optB (f.sure l))) (ev_call (l, f.rows, f.near) (ea_cons (ev_var rfl (dp_mono g2.g _ _ dv2)) (ea_cons (ev_var rfl dv3) (ea_cons (ev_var rfl dv4) ea_nil))) ⟨by show f.rows.length ≤ 1000; omega, by have := near_le f ho; show f.near.length ≤ 1000; omega, fun few hf => by have := few_le f ho hf; omega⟩) g2.s trivial fun v d G3 H3 g3 _ dv e => by subst e; exact k v G3 H3 ((Grow.trans g1 g2).trans g3) dv
-- slots: 0 self, 1 rows, 2 near, 3 log
abbrev N_F_next_ask : List Str := ["self", "rows", "near", "log"]
theorem sc_F_next_ask : FnScope N_F_next_ask ["self"] (defScope st_F_next_ask) := ⟨rfl, rfl, rfl, by decide +kernel, rfl, by decide +kernel, by decide +kernel⟩
theorem bd_F_next_ask : BindOk "next_ask" "Finder.next_ask" st_F_next_ask ["self"] := fun _ _ _ _ _ _ us hl => match us, hl with | [_], _ => rfl
abbrev spNext (K : PySem.W.Frag) : Sp := spF K (fun _ : Unit => []) (fun _ _ => True) (fun f _ => optW f.next)
-- slots: 0 self
abbrev N_F_asks : List Str := ["self"]
theorem sc_F_asks : FnScope N_F_asks ["self"] (defScope st_F_asks) := ⟨rfl, rfl, rfl, by decide +kernel, rfl, by decide +kernel, by decide +kernel⟩
theorem bd_F_asks : BindOk "asks" "Finder.asks" st_F_asks ["self"] := fun _ _ _ _ _ _ us hl => match us, hl with | [_], _ => rfl
abbrev spAsks (K : PySem.W.Frag) : Sp := spF K (fun _ : Unit => []) (fun _ _ => True) (fun f _ => .list (f.asks.map askD))
theorem ok_F_asks (T : Txt K mg) : MCallee P w K mg base 1 (FC K) "asks" ["self"] (spAsks K) := by
  refine mcallee_of T.f_F_asks T.m_F_asks sc_F_asks bd_F_asks (spF_len fun _ => rfl) fun cdv A outer s H vs Q E hr h => ?_
  obtain ⟨a, dx, fs, ws, f, u, G, rfl, hs, hx, hd, ha, ho, hp, k⟩ := h
  have e := dpa_len ha
  have e : ws = [] := List.length_eq_zero_iff.mp e
  subst e
  have j0 : (cF c0 K a fs).J H := ⟨trivial, dx, hx⟩
  refine ⟨_, (pss_one (ps_ret (pe_callTy (T := "list") (k_list (K := K) rfl) (by rfl) T.b_list (by decide +kernel) (pa_cons (k_fld (K := K) rfl (pv 0) rfl) pa_nil)))), ?_⟩
  exact st_ret (c := cF c0 K a fs) (K := K) (G := G) (φ := is (.list (f.asks.map askD))) (ev_list (t := true) (ev_asks T rfl hd)) hs j0 fun v d G1 H1 g1 _ dv e => by subst e; exact k v G1 H1 g1 dv
end
end Mk
/-! ## MkW6 -/
set_option autoImplicit true
set_option Elab.async false
set_option linter.all false
set_option maxRecDepth 100000
set_option maxHeartbeats 4000000
namespace Mk
open PySem PySem.Spec PyProof.Rows L2 MkM
abbrev BA (a : Addr) : Addr → Prop := fun b => b = a
theorem enc_ask : Enc askD 2 := enc_pair enc_wd enc_bool
section
variable {P : Program} {w : World} {K : PySem.W.Frag} {mg : Str → Option Value} {base : Heap}
/-! ### next_ask -/
theorem ok_F_next_ask (T : Txt K mg) : MCallee P w K mg base 5 (FC K) "next_ask" ["self"] (spNext K) := by
  have C_open_logs : Callee P w K mg base 4 "open_logs" ["short", "asks"] (spOpen K) := ok_open_logs T
  have C_sure_by : Callee P w K mg base 4 "sure_by" ["log", "rows", "near"] (spSure K) := ok_sure_by T
  refine mcallee_of T.f_F_next_ask T.m_F_next_ask sc_F_next_ask bd_F_next_ask (spF_len fun _ => rfl) fun cdv A outer s H vs Q E hr h => ?_
  obtain ⟨a, dx, fs, ws, f, u, G, rfl, hs, hx, hd, ha, ho, hp, k⟩ := h
  have e := dpa_len ha
  have e : ws = [] := List.length_eq_zero_iff.mp e
  subst e
  have j0 : (cF c0 K a fs).J H := ⟨trivial, dx, hx⟩
  have hsl := short_le f ho
  have hrl := rows_le f ho
  refine ⟨_, (pss_cons (ps_asg (pe_callC C_open_logs hr (by omega) rfl (pa_cons (k_fld (K := K) rfl (pv 0) rfl) (pa_cons (k_fld (K := K) rfl (pv 0) rfl) pa_nil))) (k_pg_tup (K := K) (n := 2) rfl rfl (pgs_cons (pg_name (i := 1) sc_F_next_ask.nd rfl (by first | exact Or.inl rfl | exact Or.inr rfl)) (pgs_cons (pg_name (i := 2) sc_F_next_ask.nd rfl (by first | exact Or.inl rfl | exact Or.inr rfl)) pgs_nil))))
        (pss_cons (ps_for PassesOwn.never rfl (k_pi_sq (K := K) rfl (k_fld (K := K) rfl (pv 0) rfl)) (pg_name (i := 3) sc_F_next_ask.nd rfl (by first | exact Or.inl rfl | exact Or.inr rfl)) (pss_one (ps_if (pt_cmp (pc_isN (pe_callC C_sure_by hr (by omega) rfl (pa_cons (pv 3) (pa_cons (pv 1) (pa_cons (pv 2) pa_nil))))) rfl) (pss_one (ps_ret (pv 3))) pss_nil)))
        (pss_one (ps_ret pe_non)))), ?_⟩
  refine q_asg2 (c := cF c0 K a fs) (K := K) (G := G) (φ := is (bsD false f.rows)) (ψ := is (.list (f.near.map nrD))) ((ev_call (f.short, f.asks) (ea_cons (ev_short T rfl hd) (ea_cons (ev_asks T rfl hd) ea_nil)) ⟨by show f.short.length ≤ 1000; omega, by have := ho.asks; show f.asks.length ≤ 1000; omega⟩).imp fun d e => ⟨_, _, e, rfl, rfl⟩) hs j0 fun v1 v2 d1 d2 G1 H1 g1 j1 dv1 dv2 e1 e2 => ?_
  subst e1 e2
  refine q_forI (c := cF c0 K a fs) (G := G1) wd f.short (es_L (ev_short T rfl (hd.mono g1.g))) g1.s j1
    (fun i σ' G' H' => Grow B0 G H G' H' ∧ Same G1 G' ∧ (∀ x ∈ f.short.take i, ¬ (sureBy x f.rows f.near).isNone = true) ∧ ∃ y3, σ' = [some (.ref a), some v1, some v2, y3])
    (fun G2 H2 g _ => ⟨Grow.trans g1 g, g.g, fun x hx => by simp at hx, none, rfl⟩) (fun i σ' G' H' h => h.1.s) ?_ ?_
  · rintro G0 hG i x σ' G' H' hx s0 ⟨g, sg, hn, y3, rfl⟩ v G2 H2 g2 dv
    refine ⟨_, tg_name, ?_⟩
    have s2 := sg.trans g2.g
    refine st_if (c := c0) (G := G2) (φ := is (sureBy x f.rows f.near).isNone) (et_B (ev_isN (d := optB (sureBy x f.rows f.near)) (ev_call (x, f.rows, f.near) (ea_cons (ev_var rfl dv) (ea_cons (ev_var rfl (dp_mono s2 _ _ dv1)) (ea_cons (ev_var rfl (dp_mono s2 _ _ dv2)) ea_nil))) ⟨by show f.rows.length ≤ 1000; omega, by have := near_le f ho; show f.near.length ≤ 1000; omega, fun few hf => by have := few_le f ho hf; omega⟩) _ fun G v h => ?_)) g2.s trivial fun b G3 H3 g3 _ hb => ?_
    · cases hq : sureBy x f.rows f.near with
      | none => rw [hq] at h; exact nonN h
      | some b => rw [hq] at h; exact nonD (d := .bool b) (fun z => nomatch z) h
    · have hb : b = (sureBy x f.rows f.near).isNone := hb
      cases hq : (sureBy x f.rows f.near).isNone with
      | true =>
        rw [hq] at hb
        subst hb
        refine st_ret (c := c0) (K := K) (φ := is (wd x)) (ev_var rfl (dp_mono g3.g _ _ dv)) g3.s trivial fun v d G4 H4 g4 _ dv e => ?_
        subst e
        refine k v G4 H4 (((g.trans g2).trans g3).trans g4) ?_
        have e : f.next = some x := by
          unfold Fd.next
          rw [← List.take_append_drop i f.short, List.find?_append, List.find?_eq_none.mpr hn, Option.none_or]
          have hx' := hx
          rw [List.getElem?_eq_some_iff] at hx'
          obtain ⟨hi, e⟩ := hx'
          rw [List.drop_eq_getElem_cons hi, e, List.find?_cons, hq]
        show Dp K G4 v (optW f.next)
        rw [e]
        exact dv
      | false =>
        rw [hq] at hb
        subst hb
        refine ⟨G3, (s0.trans g2.g).trans g3.g, (g.trans g2).trans g3, s2.trans g3.g, fun y hy => ?_, some v, rfl⟩
        rw [take_succ' hx] at hy
        rcases List.mem_append.mp hy with hy | hy
        · exact hn y hy
        · rw [List.mem_singleton] at hy
          rw [hy, hq]
          exact Bool.false_ne_true
  · rintro σ' G' H' sg0 ⟨g, sg, hn, y3, rfl⟩
    rw [List.take_length] at hn
    refine st_ret (c := c0) (K := K) (G := G') (φ := is .none) ev_non g.s trivial fun v d G4 H4 g4 _ dv e => ?_
    subst e
    refine k v G4 H4 (g.trans g4) ?_
    have e : f.next = none := List.find?_eq_none.mpr hn
    show Dp K G4 v (optW f.next)
    rw [e]
    exact dv
/-! ### keep -/
-- slots: 0 self, 1 asks
abbrev N_F_keep : List Str := ["self", "asks"]
theorem sc_F_keep : FnScope N_F_keep ["self", "asks"] (defScope st_F_keep) := ⟨rfl, rfl, rfl, by decide +kernel, rfl, by decide +kernel, by decide +kernel⟩
theorem bd_F_keep : BindOk "keep" "Finder.keep" st_F_keep ["self", "asks"] := fun _ _ _ _ _ _ us hl => match us, hl with | [_, _], _ => rfl
def spKeep (K : PySem.W.Frag) : Sp := fun vs H Q _ => ∃ a dx fs v G d1 d2 vn vm, ∃ asks : List AskT, vs = [.ref a, v] ∧ Same G H ∧ G a = none ∧ H a = some (.ins (FC K) dx fs) ∧ fs.length < 900 ∧ fs.lookup ("own_names" : Str) = some vn ∧ Dp K G vn d1 ∧ fs.lookup ("own_most" : Str) = some vm ∧ Dp K G vm d2 ∧
  Dp K G v (.tuple (asks.map askD)) ∧ asks.length ≤ 100000 ∧ ∀ v4 v5 G1 H1, Grow (BA a) G H G1 H1 → G1 a = none → H1 a = some (.ins (FC K) dx (putF "own_whole" v5 (putF "own_asks" v4 fs))) → Dp K G1 v4 (.tuple (asks.map askD)) → Q .non H1
theorem alike_ask (a b : AskT) : PySem.W.alike (askD a) (askD b) = true := by
  show PySem.W.alike (.tuple [_, _]) (.tuple [_, _]) = true
  have e := alike_wd a.1 b.1
  rw [PySem.W.alike, PySem.W.alikeAll, PySem.W.alikeAll]
  rw [show PySem.W.alike (wd a.1) (wd b.1) = true from e]
  simp [PySem.W.alike, PySem.W.alikeAll]
theorem ev_sortedT {c : Ctx} {te : TE} {σ : St} {G : Hp} {ds : List PyData} (h : Ev c K te σ G (is (.tuple ds))) (hs : SortOk ds) : Ev c K (tCB (rSortedTup K) (tCons te tNil)) σ G (fun d => ∃ es : List PyData, d = .list es ∧ es.Perm ds) :=
  ev_cb (ea_cons h ea_nil) fun G1 H1 vs s1 p1 Q q => by
    obtain ⟨v, d, rfl, h1, h2⟩ := agOk_one p1
    subst h2
    obtain ⟨a, xs, rfl, h3, h4⟩ := dp_tup h1
    refine ⟨G1, a, xs, ds, rfl, s1, h3, h4, hs, fun cs pm p ys hp dy => q _ (.list (cs.mergeSort (PySem.W.dataLe false id))) _ _ (Grow.new s1 hp) (.lst (.inl (.inl upd_same)) (dpa_mono (same_new (s1.free hp)) _ _ dy)) ⟨_, rfl, (List.mergeSort_perm _ _).trans pm⟩⟩
theorem ev_tup3φ {c : Ctx} {ta tb tc : TE} {σ : St} {G : Hp} {φ ψ χ : PyData → Prop} (ha : Ev c K ta σ G φ) (hb : Ev c K tb σ G ψ) (hc : Ev c K tc σ G χ) : Ev c K (tTup (tCons ta (tCons tb (tCons tc tNil)))) σ G (fun d => ∃ d1 d2 d3, d = .tuple [d1, d2, d3] ∧ φ d1 ∧ ψ d2 ∧ χ d3) :=
  fun G0 H x y j Q q => ha G0 H x y j _ fun u1 e1 Ga Ha ga ja da pa => hb Ga Ha (x.trans ga.g) ga.s ja _ fun u2 e2 Gb Hb gb jb db pb => hc Gb Hb ((x.trans ga.g).trans gb.g) gb.s jb _ fun u3 e3 Gc Hc gc jc dc pc => by
    refine ⟨by show 3 ≤ sizeLine; decide, fun p hp => ?_⟩
    have da' := dp_mono (gb.g.trans gc.g) _ _ da
    have db' := dp_mono gc.g _ _ db
    exact q _ (.tuple [e1, e2, e3]) _ _ (((ga.trans gb).trans gc).trans (Grow.new gc.s hp)) (c.new jc hp) (.tup (.inl (.inl upd_same)) (dpa_mono (same_new (gc.s.free hp)) _ _ (.cons da' (.cons db' (.cons dc .nil))))) ⟨_, _, _, rfl, pa, pb, pc⟩
theorem ok_F_keep (T : Txt K mg) : MCallee P w K mg base 1 (FC K) "keep" ["self", "asks"] (spKeep K) := by
  refine mcallee_of T.f_F_keep T.m_F_keep sc_F_keep bd_F_keep (by rintro vs H Q E ⟨a, dx, fs, v, G, d1, d2, vn, vm, asks, rfl, _⟩; rfl) fun cdv A outer s H vs Q E hr h => ?_
  obtain ⟨a, dx, fs, v, G, d1, d2, vn, vm, asks, rfl, hs, hga, hx, hfl, hn, dn, hm, dm, dv, hal, k⟩ := h
  refine ⟨_, (pss_cons (ps_fld (pv 0) (pv 1) rfl)
        (pss_one (ps_fld (pv 0) (pe_tup (pa_cons (k_fld (K := K) rfl (pv 0) rfl) (pa_cons (k_fld (K := K) rfl (pv 0) rfl) (pa_cons (pe_callTy (T := "tuple") (k_tuple (K := K) rfl) (by rfl) T.b_tuple (by decide +kernel) (pa_cons (pe_callB (id := "sorted") (k_sortedTup (K := K) rfl (Rm65 hr)) (by rfl) T.b_sorted (by decide +kernel) (pa_cons (pv 1) pa_nil)) pa_nil)) pa_nil)))) rfl))), ?_⟩
  have n1 : ("own_names" : Str) ≠ "own_asks" := by decide +kernel
  have n2 : ("own_most" : Str) ≠ "own_asks" := by decide +kernel
  refine q_fld (c := c0) (K := K) (G := G) (φ := is (.tuple (asks.map askD))) (ev_var rfl dv) hs trivial rfl T.cl T.n_own_asks hx hga (fun z => z) (by omega) fun v4 d4 G1 H1 g1 _ n4 h4 dv4 e4 => ?_
  subst e4
  have gA : Grow (BA a) G H G1 (upd H1 a (.ins (FC K) dx (putF "own_asks" v4 fs))) := g1.wide.mut (.inr rfl) n4
  have hlen : (putF "own_asks" v4 fs).length < 1000 := by
    have : ∀ fs : List (Str × V), (putF "own_asks" v4 fs).length ≤ fs.length + 1 := by
      intro fs
      induction fs with
      | nil => simp [putF]
      | cons p r ih =>
        obtain ⟨g, x⟩ := p
        show (if g = "own_asks" then (g, v4) :: r else (g, x) :: putF "own_asks" v4 r).length ≤ _
        split
        · simp
        · simp only [List.length_cons]
          omega
    have := this fs
    omega
  generalize hfs : putF "own_asks" v4 fs = fs1 at gA hlen
  have l1 : fs1.lookup ("own_names" : Str) = some vn := by rw [← hfs, lookup_putF, if_neg n1]; exact hn
  have l2 : fs1.lookup ("own_most" : Str) = some vm := by rw [← hfs, lookup_putF, if_neg n2]; exact hm
  have l4 : fs1.lookup ("own_asks" : Str) = some v4 := by rw [← hfs, lookup_putF, if_pos rfl]
  refine st_fld (c := cF c0 K a fs1) (K := K) (φ := fun _ => True) (G := G1) (fs := fs1) (dx := dx) ?_ gA.s ⟨trivial, dx, upd_same⟩ rfl T.cl T.n_own_whole upd_same n4 (fun z => z) hlen fun v5 d5 G2 H2 g2 _ n5 h5 dv5 _ => ?_
  · have hsort : SortOk (asks.map askD) := by
      refine ⟨fun d hd d' hd' => ?_, .inl fun d hd => ?_, by rw [List.length_map]; exact hal, fun d hd => ?_⟩
      · obtain ⟨x, _, rfl⟩ := List.mem_map.mp hd
        obtain ⟨y, _, rfl⟩ := List.mem_map.mp hd'
        exact alike_ask x y
      · obtain ⟨x, _, rfl⟩ := List.mem_map.mp hd
        exact ⟨_, _, rfl⟩
      · obtain ⟨x, _, rfl⟩ := List.mem_map.mp hd
        have := enc_ask.dp x
        omega
    have hsrt := ev_sortedT (c := cF c0 K a fs1) (σ := [some (V.ref a), some v]) (ev_var (i := 1) rfl (dp_mono g1.g _ _ dv)) hsort
    have htup := ev_tuple (t := false) (χ := fun _ => True) (hsrt.imp fun d ⟨es, e, _⟩ => ⟨es, e, trivial⟩)
    exact (ev_tup3φ (ev_fldN (c := c0) (i := 0) rfl T.cl T.n_own_names l1 (dp_mono g1.g _ _ dn)) (ev_fldN (i := 0) rfl T.cl T.n_own_most l2 (dp_mono g1.g _ _ dm)) htup).imp fun _ _ => trivial
  · refine k v4 v5 G2 _ ((gA.trans (Grow.wide g2)).mut (.inr rfl) n5) n5 ?_ (dp_mono g2.g _ _ dv4)
    rw [hfs]
    exact upd_same
end
end Mk
/-! ## MkW7 -/
set_option autoImplicit true
set_option Elab.async false
set_option linter.all false
set_option maxRecDepth 100000
set_option maxHeartbeats 4000000
namespace Mk
open PySem PySem.Spec PyProof.Rows L2 MkM
section
variable {P : Program} {w : World} {K : PySem.W.Frag} {mg : Str → Option Value} {base : Heap}
/-! ### __init__ -/
-- slots: 0 self, 1 names, 2 most
abbrev N_F_init : List Str := ["self", "names", "most"]
theorem sc_F_init : FnScope N_F_init ["self", "names", "most"] (defScope st_F_init) := ⟨rfl, rfl, rfl, by decide +kernel, rfl, by decide +kernel, by decide +kernel⟩
theorem bd_F_init : BindOk "__init__" "Finder.__init__" st_F_init ["self", "names", "most"] := fun _ _ _ _ _ _ us hl => match us, hl with | [_, _, _], _ => rfl
def spInit (K : PySem.W.Frag) : Sp := fun vs H Q _ => ∃ a dx G vn vm, ∃ (names : List Str) (most : Nat), vs = [.ref a, vn, vm] ∧ Same G H ∧ G a = none ∧ H a = some (.ins (FC K) dx []) ∧ Dp K G vn (wd names) ∧ Dp K G vm (.int (most : Int)) ∧ names.length ≤ 3 ∧ most ≤ 3 ∧
  ∀ fs G1 H1, Grow (BA a) G H G1 H1 → G1 a = none → H1 a = some (.ins (FC K) dx fs) → FD K ⟨names, most, []⟩ fs G1 → Q .non H1
theorem ok_F_init (T : Txt K mg) : MkCallee P w K mg base 2 (FC K) ["self", "names", "most"] (spInit K) := by
  have C_short_logs : Callee P w K mg base 1 "short_logs" ["names", "most"] (spShort K) := ok_short_logs T
  have C_F_keep : MCallee P w K mg base 1 (FC K) "keep" ["self", "asks"] (spKeep K) := ok_F_keep T
  refine mkcallee_of T.f_F_init T.mkF sc_F_init bd_F_init (by rintro vs H Q E ⟨a, dx, G, vn, vm, names, most, rfl, _⟩; rfl) fun cdv A outer s H vs Q E hr h => ?_
  obtain ⟨a, dx, G, vn, vm, names, most, rfl, hs, hga, hx, dn, dm, h1, h2, k⟩ := h
  refine ⟨_, (pss_cons (ps_fld (pv 0) (pe_callTy (T := "tuple") (k_tuple (K := K) rfl) (by rfl) T.b_tuple (by decide +kernel) (pa_cons (pv 1) pa_nil)) rfl)
        (pss_cons (ps_fld (pv 0) (pv 2) rfl)
        (pss_cons (ps_fld (pv 0) (pe_callC C_short_logs hr (by omega) rfl (pa_cons (k_fld (K := K) rfl (pv 0) rfl) (pa_cons (pv 2) pa_nil))) rfl)
        (pss_one (ps_expr (pe_methC C_F_keep (pv 0) T.cl hr (by omega) (pa_cons (pe_tup pa_nil) pa_nil))))))), ?_⟩
  refine q_fld (c := c0) (K := K) (G := G) (φ := is (wd names)) (ev_tupleT (ev_var rfl dn)) hs trivial rfl T.cl T.n_own_names hx hga (fun z => z) (by simp) fun u1 e1 G1 H1 g1 _ n1 x1 d1 p1 => ?_
  subst p1
  have gA : Grow (BA a) G H G1 (upd H1 a (.ins (FC K) dx (putF "own_names" u1 []))) := g1.wide.mut (.inr rfl) n1
  refine q_fld (c := c0) (K := K) (G := G1) (φ := is (.int (most : Int))) (ev_var rfl (dp_mono g1.g _ _ dm)) gA.s trivial rfl T.cl T.n_own_most upd_same n1 (fun z => z) (by show 1 < 1000; omega) fun u2 e2 G2 H2 g2 _ n2 x2 d2 p2 => ?_
  subst p2
  have gB := (gA.trans (Grow.wide g2)).mut (o := .ins (FC K) dx (putF "own_most" u2 (putF "own_names" u1 []))) (.inr rfl) n2
  have hf2 : putF "own_most" u2 (putF "own_names" u1 []) = ([("own_names", u1), ("own_most", u2)] : List (Str × V)) := rfl
  have d1' := dp_mono g2.g _ _ d1
  refine q_fld (c := cF c0 K a (putF "own_most" u2 (putF "own_names" u1 []))) (K := K) (G := G2) (φ := is (bsD false (shortOf names most))) (ev_call (names, most) (ea_cons (ev_fldN rfl T.cl T.n_own_names rfl d1') (ea_cons (ev_var rfl (dp_mono (g1.g.trans g2.g) _ _ dm)) ea_nil)) ⟨h1, h2⟩) gB.s ⟨trivial, dx, upd_same⟩ rfl T.cl T.n_own_short upd_same n2 (fun z => z) (by show 2 < 1000; omega) fun u3 e3 G3 H3 g3 _ n3 x3 d3 p3 => ?_
  subst p3
  have gC := (gB.trans (Grow.wide g3)).mut (o := .ins (FC K) dx (putF "own_short" u3 (putF "own_most" u2 (putF "own_names" u1 [])))) (.inr rfl) n3
  generalize hH3 : upd H3 a (.ins (FC K) dx (putF "own_short" u3 (putF "own_most" u2 (putF "own_names" u1 [])))) = Hc at gC
  have hxc : Hc a = some (.ins (FC K) dx [("own_names", u1), ("own_most", u2), ("own_short", u3)]) := by rw [← hH3]; exact upd_same
  refine ⟨.ref a, rfl, a, dx, [("own_names", u1), ("own_most", u2), ("own_short", u3)], rfl, hxc, rfl, ?_⟩
  refine (ea_cons (c := c0) (K := K) (σ := [some (V.ref a), some vn, some vm]) (G := G3) (ev_tupX ex_nil (by simp)) ea_nil) G3 Hc (Same.refl _) gC.s trivial _ fun vs G4 H4 g4 _ p4 => ?_
  obtain ⟨v, d, rfl, dv, e⟩ := agOk_one p4
  subst e
  have n4 : G4 a = none := g4.none1 (by rw [hxc]; exact fun z => nomatch z) n3
  refine ⟨a, dx, [("own_names", u1), ("own_most", u2), ("own_short", u3)], v, G4, _, _, u1, u2, [], rfl, g4.s, n4, g4.same _ _ hxc, by simp, rfl, dp_mono (g3.g.trans g4.g) _ _ d1', rfl, dp_mono (g3.g.trans g4.g) _ _ d2, dv, by simp, fun v4 v5 G5 H5 g5 n5 x5 d5 => ?_⟩
  exact k _ G5 H5 ((gC.trans (Grow.wide g4)).trans g5) n5 x5 ⟨u1, u2, u3, v4, v5, rfl, dp_mono ((g3.g.trans g4.g).trans g5.g) _ _ d1', dp_mono ((g3.g.trans g4.g).trans g5.g) _ _ d2, dp_mono (g4.g.trans g5.g) _ _ d3, d5⟩
/-! ### answered -/
-- slots: 0 self, 1 log, 2 done, 3 own, 4 asks, 5 rows, 6 near
abbrev N_F_answered : List Str := ["self", "log", "done", "own", "asks", "rows", "near"]
theorem sc_F_answered : FnScope N_F_answered ["self", "log", "done"] (defScope st_F_answered) := ⟨rfl, rfl, rfl, by decide +kernel, rfl, by decide +kernel, by decide +kernel⟩
theorem bd_F_answered : BindOk "answered" "Finder.answered" st_F_answered ["self", "log", "done"] := fun _ _ _ _ _ _ us hl => match us, hl with | [_, _, _], _ => rfl
def spAnswered (K : PySem.W.Frag) : Sp := fun vs H Q _ => ∃ a dx fs G v1 v2 f l b, vs = [.ref a, v1, v2] ∧ Same G H ∧ G a = none ∧ H a = some (.ins (FC K) dx fs) ∧ FD K f fs G ∧ Dp K G v1 (wd l) ∧ Dp K G v2 (.bool b) ∧ f.Ok ∧ (f.put l b).Ok ∧ (∀ x ∈ l, x ∈ f.names) ∧ [] ∉ (f.put l b).near ∧
  ∀ fs' G1 H1, Grow (BA a) G H G1 H1 → G1 a = none → H1 a = some (.ins (FC K) dx fs') → FD K (f.put l b) fs' G1 → Q .non H1
theorem ok_F_answered (T : Txt K mg) : MCallee P w K mg base 5 (FC K) "answered" ["self", "log", "done"] (spAnswered K) := by
  have C_open_logs : Callee P w K mg base 4 "open_logs" ["short", "asks"] (spOpen K) := ok_open_logs T
  have C_F_check : MCallee P w K mg base 1 (FC K) "check" ["self", "log"] (spCheck K) := ok_F_check T
  have C_F_keep : MCallee P w K mg base 1 (FC K) "keep" ["self", "asks"] (spKeep K) := ok_F_keep T
  refine mcallee_of T.f_F_answered T.m_F_answered sc_F_answered bd_F_answered (by rintro vs H Q E ⟨a, dx, fs, G, v1, v2, f, l, b, rfl, _⟩; rfl) fun cdv A outer s H vs Q E hr h => ?_
  obtain ⟨a, dx, fs, G, v1, v2, f, l, b, rfl, hs, hga, hx, hd, dl, db, ho, ho', hl, hne, k⟩ := h
  have hsl := short_le f ho
  have hal := ho'.asks
  have j0 : (cF c0 K a fs).J H := ⟨trivial, dx, hx⟩
  refine ⟨_, (pss_cons (ps_set (i := 3) sc_F_answered.nd rfl (by first | exact Or.inl rfl | exact Or.inr rfl) (pe_tup (pa_cons (pe_methC C_F_check (pv 0) T.cl hr (by omega) (pa_cons (pv 1) pa_nil)) (pa_cons (pv 2) pa_nil))))
        (pss_cons (ps_set (i := 4) sc_F_answered.nd rfl (by first | exact Or.inl rfl | exact Or.inr rfl) (pe_ifExp (pt_cmpR (k_inP (K := K) rfl (Rm65 hr)) (pv 3) (k_fld (K := K) rfl (pv 0) rfl) (by rfl)) (k_fld (K := K) rfl (pv 0) rfl) (pe_tup (k_star (K := K) rfl (k_fld (K := K) rfl (pv 0) rfl) (pa_cons (pv 3) pa_nil)))))
        (pss_cons (ps_asg (pe_callC C_open_logs hr (by omega) rfl (pa_cons (k_fld (K := K) rfl (pv 0) rfl) (pa_cons (pv 4) pa_nil))) (k_pg_tup (K := K) (n := 2) rfl rfl (pgs_cons (pg_name (i := 5) sc_F_answered.nd rfl (by first | exact Or.inl rfl | exact Or.inr rfl)) (pgs_cons (pg_name (i := 6) sc_F_answered.nd rfl (by first | exact Or.inl rfl | exact Or.inr rfl)) pgs_nil))))
        (pss_cons (ps_if (pt_cmpR (k_inP (K := K) rfl (Rm65 hr)) (pe_lst pa_nil) (pv 6) (by rfl)) pss_never pss_nil)
        (pss_one (ps_expr (pe_methC C_F_keep (pv 0) T.cl hr (by omega) (pa_cons (pv 4) pa_nil)))))))), ?_⟩
  refine q_asg (c := cF c0 K a fs) (K := K) (G := G) (φ := is (askD (l, b))) (ev_tup2 (ev_meth l rfl hd ho (by decide +kernel) (ea_cons (ev_var rfl dl) ea_nil) hl) (ev_var rfl db)) hs j0 fun v3 d3 G1 H1 g1 j1 dv3 e => ?_
  subst e
  have hd1 := hd.mono g1.g
  refine q_asg (c := cF c0 K a fs) (K := K) (G := G1) (φ := is (.tuple ((f.put l b).asks.map askD))) (ev_if (b := decide ((l, b) ∈ f.asks)) (et_test (ev_inE (t := true) enc_ask (by omega) (ev_var rfl dv3) (ev_asks T rfl hd1))) (fun e => ?_) fun e => ?_) g1.s j1 fun v4 d4 G2 H2 g2 j2 dv4 e => ?_
  · unfold Fd.put
    rw [if_pos (of_decide_eq_true e)]
    exact ev_asks T rfl hd1
  · unfold Fd.put
    rw [if_neg (of_decide_eq_false e)]
    refine (ev_tupX (ex_star (t := true) (ev_asks T rfl hd1) (ex_cons (ev_var rfl dv3) ex_nil)) ?_).to ?_
    · have := ho.asks
      rw [List.length_append, List.length_map]
      simp only [List.length_singleton]
      omega
    · show PyData.tuple _ = .tuple ((f.asks ++ [(l, b)]).map askD)
      rw [List.map_append]
      rfl
  · subst e
    have hd2 := hd1.mono g2.g
    refine q_asg2 (c := cF c0 K a fs) (K := K) (G := G2) (φ := is (bsD false (f.put l b).rows)) (ψ := is (.list ((f.put l b).near.map nrD))) ((ev_call (f.short, (f.put l b).asks) (ea_cons (ev_short T rfl hd2) (ea_cons (ev_var rfl dv4) ea_nil)) ⟨by show f.short.length ≤ 1000; omega, by show (f.put l b).asks.length ≤ 1000; omega⟩).imp fun d e => ⟨_, _, e, rfl, rfl⟩) g2.s j2 fun v5 v6 d5 d6 G3 H3 g3 j3 dv5 dv6 e5 e6 => ?_
    subst e5 e6
    refine q_if (c := c0) (G := G3) (φ := is (decide ([] ∈ (f.put l b).near))) (et_test (ev_inE (t := false) (enc_bs false) (by omega) (ev_lstX ex_nil (by simp)) (ev_var rfl dv6))) g3.s trivial fun bb G4 H4 g4 _ e => ?_
    have e : bb = decide ([] ∈ (f.put l b).near) := e
    rw [decide_eq_false hne] at e
    subst e
    have gg : Grow B0 G H G4 H4 := ((Grow.trans g1 g2).trans g3).trans g4
    have x4 := gg.same _ _ hx
    have n4 : G4 a = none := gg.none1 (by rw [hx]; exact fun z => nomatch z) hga
    obtain ⟨w1, w2, w3, w4, w5, rfl, hw1, hw2, hw3, hw4⟩ := hd.ex
    refine ⟨.ref a, rfl, a, dx, _, rfl, x4, rfl, v4, rfl, ?_⟩
    refine ⟨a, dx, _, v4, G4, _, _, w1, w2, (f.put l b).asks, rfl, gg.s, n4, x4, by show 5 < 900; omega, rfl, dp_mono gg.g _ _ hw1, rfl, dp_mono gg.g _ _ hw2, dp_mono (g3.g.trans g4.g) _ _ dv4, by omega, fun u4 u5 G5 H5 g5 n5 x5 d5 => ?_⟩
    exact k _ G5 H5 ((Grow.wide gg).trans g5) n5 x5 ⟨w1, w2, w3, u4, u5, rfl, dp_mono (gg.g.trans g5.g) _ _ hw1, dp_mono (gg.g.trans g5.g) _ _ hw2, dp_mono (gg.g.trans g5.g) _ _ hw3, d5⟩
end
end Mk
/-! ## MkDict -/
set_option autoImplicit true
set_option Elab.async false
set_option linter.all false
set_option maxRecDepth 100000
set_option maxHeartbeats 4000000
/-! Dicts whose keys are nested tuples, values objects: what HandS has for ints, texts and flat tuples. -/
namespace Mk
open PySem PySem.Spec PyProof.Rows L2
/-- key, where its tuple stands, the value's address -/
abbrev Ent := PySem.NestedKey × Addr × Addr
def entN (xs : List Ent) : List (PySem.NestedKey × Addr × Value) := xs.map fun x => (x.1, x.2.1, .ref x.2.2)
def DictB (P : Program) (w : World) (d : Addr) (xs : List Ent) (ep : Nat) (h : Heap) : Prop := ∃ o es, h.get? d = some o ∧ o.ExactDict ∧ o.data = .dict es ep ∧ es.toList = (entN xs).map (entryOfKey (nestedKind P w)) ∧ (xs.map (·.1)).Nodup ∧ xs.length ≤ 100000 ∧ (d == sysModules) = false
def DO (P : Program) (w : World) (d : Addr) (xs : List Ent) (ep : Nat) : HO := .ext fun h => DictB P w d xs ep h
/-- the keys are what stands there -/
def KeysOk (K : PySem.W.Frag) (H : Hp) (xs : List Ent) : Prop := ∀ x ∈ xs, Dp K H (.ref x.2.1) x.1.data ∧ x.1.depth ≤ 8
theorem KeysOk.mono {K : PySem.W.Frag} {H H' : Hp} {xs : List Ent} (h : KeysOk K H xs) (s : Same H H') : KeysOk K H' xs := fun x hx => ⟨dp_mono s _ _ (h x hx).1, (h x hx).2⟩
theorem dO_new {P : Program} {w : World} {H : Hp} {h : Heap} {d : Addr} {xs : List Ent} {ep : Nat} (R : DictB P w d xs ep h) : ObjOk P w H h d (DO P w d xs ep) := by
  have ⟨o, es, ho, r⟩ := R
  refine ⟨R, ⟨o, ho⟩, fun h1 h2 p k => ?_⟩
  have ⟨o', es', ho', r'⟩ := (p : DictB P w d xs ep h1)
  exact ⟨o', es', k o' ho', r'⟩
theorem entN_keys (xs : List Ent) : (entN xs).map (·.1) = xs.map (·.1) := by
  unfold entN
  rw [List.map_map]
  rfl
theorem atKey_entN : ∀ (xs : List Ent) (k : PySem.NestedKey), (atKey (entN xs) k).isSome = decide (k ∈ xs.map (·.1))
  | [], k => by simp [atKey, entN]
  | x :: xs, k => by
    have ih := atKey_entN xs k
    unfold atKey entN at ih ⊢
    rw [List.map_cons, List.find?_cons]
    by_cases e : x.1 = k
    · simp [e]
    · rw [decide_eq_false e]
      simp only
      rw [ih]
      simp [Ne.symm e]
theorem atKey_mem {xs : List Ent} {k : PySem.NestedKey} {a b : Addr} (hn : (xs.map (·.1)).Nodup) (h : (k, a, b) ∈ xs) : atKey (entN xs) k = some (a, .ref b) := by
  obtain ⟨i, hi⟩ := List.mem_iff_getElem?.mp h
  refine atKey_of_get (i := i) (by rw [entN_keys]; exact hn) ?_
  unfold entN
  rw [List.getElem?_map, hi]
  rfl
theorem atKey_new {xs : List Ent} {k : PySem.NestedKey} (h : k ∉ xs.map (·.1)) : atKey (entN xs) k = none := by
  have := atKey_entN xs k
  rw [decide_eq_false h] at this
  cases e : atKey (entN xs) k with
  | none => rfl
  | some v => rw [e] at this; cases this
section
variable {X : Cx} {pins : List (Addr × Obj)} {σ : St} {H : Hp} {s : Shared} {d : Addr} {xs : List Ent} {ep : Nat} {K : PySem.W.Frag} {P : Program} {w : World}
theorem dict_of (I : Inv X pins σ H s) (hd : H d = some (DO X.prog X.w d xs ep)) (hk : KeysOk X.K H xs) : s.heap.DictOfH (nestedKind X.prog X.w) d (entN xs) ∧ (xs.map (·.1)).Nodup ∧ xs.length ≤ 100000 ∧ (d == sysModules) = false := by
  obtain ⟨o, es, ho, hx, hdt, he, hn, hl, hs⟩ := ((I.hok d _ hd).1 : DictB X.prog X.w d xs ep s.heap)
  refine ⟨⟨o, es, ep, ho, hx, hdt, he, fun x hx => ?_, by rw [entN_keys]; exact hn⟩, hn, hl, hs⟩
  obtain ⟨y, hy, rfl⟩ := List.mem_map.mp hx
  exact ⟨dp_key I _ _ _ (hk y hy).1 rfl, (hk y hy).2⟩
/-- k in d -/
def rInN (K : PySem.W.Frag) (P : Program) (w : World) : R2 := fun x y H Q => ∃ d xs ep k a, y = .ref d ∧ x = .ref a ∧ H d = some (DO P w d xs ep) ∧ KeysOk K H xs ∧ Dp K H (.ref a) k.data ∧ k.depth ≤ 8 ∧ Q (.bl (decide (k ∈ xs.map (·.1)))) H
def rNiN (K : PySem.W.Frag) (P : Program) (w : World) : R2 := fun x y H Q => ∃ d xs ep k a, y = .ref d ∧ x = .ref a ∧ H d = some (DO P w d xs ep) ∧ KeysOk K H xs ∧ Dp K H (.ref a) k.data ∧ k.depth ≤ 8 ∧ Q (.bl (!decide (k ∈ xs.map (·.1)))) H
theorem k_inN (hK : X.K = K) (hP : X.prog = P) (hw : X.w = w) (hu : X.A.units + 65 < cLine) : OpR X (compareOp .In) (rInN K P w) := by
  subst hK hP hw
  intro pins s σ H x y v u Q I rx ry h
  obtain ⟨d, xs, ep, k, a, rfl, rfl, hd, hk, ha, hz, q⟩ := h
  cases rx
  cases ry
  obtain ⟨hm, hn, hl, hs⟩ := dict_of I hd hk
  refine in_keyed (knd := nestedKind X.prog X.w) (by show X.A.units + 1 + 8 < cLine; omega) ⟨dp_key I _ _ _ ha rfl, hz⟩ hs ⟨_, hm, rfl⟩ ?_
  rw [valueAt_pairsH, Option.isSome_map, atKey_entN]
  exact ⟨.bl _, H, I.tok _, rfl, q⟩
theorem k_niN (hK : X.K = K) (hP : X.prog = P) (hw : X.w = w) (hu : X.A.units + 65 < cLine) : OpR X (compareOp .NotIn) (rNiN K P w) := by
  subst hK hP hw
  intro pins s σ H x y v u Q I rx ry h
  obtain ⟨d, xs, ep, k, a, rfl, rfl, hd, hk, ha, hz, q⟩ := h
  cases rx
  cases ry
  obtain ⟨hm, hn, hl, hs⟩ := dict_of I hd hk
  refine notIn_keyed (knd := nestedKind X.prog X.w) (by show X.A.units + 1 + 8 < cLine; omega) ⟨dp_key I _ _ _ ha rfl, hz⟩ hs ⟨_, hm, rfl⟩ ?_
  rw [valueAt_pairsH, Option.isSome_map, atKey_entN]
  exact ⟨.bl _, H, I.tok _, rfl, q⟩
/-- d[k], k there -/
def tDGetN (K : PySem.W.Frag) (P : Program) (w : World) (td ty : TE) : TE := fun σ H Q => td σ H fun x H1 => ty σ H1 fun y H2 => ∃ d xs ep k a a' b, x = .ref d ∧ y = .ref a ∧ H2 d = some (DO P w d xs ep) ∧ KeysOk K H2 xs ∧ Dp K H2 (.ref a) k.data ∧ k.depth ≤ 8 ∧ (k, a', b) ∈ xs ∧ Q (.ref b) H2
theorem k_dget {o i : Expr} {pos : Pos} {td ty : TE} (hK : X.K = K) (hP : X.prog = P) (hw : X.w = w) (hu : X.A.units + 65 < cLine) (ho : PE X o td) (hi : PE X i ty) (hs : NoSl i) : PE X (.Subscript o i pos) (tDGetN K P w td ty) := by
  subst hK hP hw
  refine ⟨fun pins s σ H Q I h => ?_⟩
  refine subD_of PySem.F.slot_dict_getitem.lookup hs (thn (ho.run pins s σ H _ I h) fun u s1 ⟨x, H1, I1, rx, q1⟩ => thn (hi.run pins s1 σ H1 _ I1 q1) fun iv s2 ⟨y, H2, I2, ry, d, xs, ep, k, a, a', b, ex, ey, hd, hk, ha, hz, hm, q2⟩ => ?_)
  subst ex ey
  cases rx
  cases ry
  obtain ⟨hm', hn, hl, hs'⟩ := dict_of I2 hd hk
  refine ⟨hm'.typeIs, wpAny_getItem_heap (knd := nestedKind X.prog X.w) (by show X.A.units + 1 + 8 < cLine; omega) ⟨dp_key I2 _ _ _ ha rfl, hz⟩ hm' (atKey_mem hn hm) ⟨.ref b, H2, I2.tok _, rfl, q2⟩⟩
/-- d[k] = v, k not there -/
def rPutN (K : PySem.W.Frag) (P : Program) (w : World) : V → V → V → Hp → (Hp → Prop) → Prop := fun o i v H Q => ∃ d xs ep k a b, o = .ref d ∧ i = .ref a ∧ v = .ref b ∧ H d = some (DO P w d xs ep) ∧ KeysOk K H xs ∧ Dp K H (.ref a) k.data ∧ k.depth ≤ 8 ∧ k ∉ xs.map (·.1) ∧ xs.length < 100000 ∧ ∀ ep', Q (upd H d (DO P w d (xs ++ [(k, a, b)]) ep'))
theorem put_inv {k : PySem.NestedKey} {a b : Addr} {h' : Heap} {t' : Nat} (I : Inv X pins σ H s) (hd : H d = some (DO X.prog X.w d xs ep)) (hs : (d == sysModules) = false) (hnew : k ∉ xs.map (·.1)) (hn : (xs.map (·.1)).Nodup) (hlen : xs.length < 100000)
    (hm : h'.DictOfH (nestedKind X.prog X.w) d (storedH (entN xs) k a (.ref b))) (sb : Heap.SameBut d s.heap h') : ∃ ep', Inv X pins σ (upd H d (DO X.prog X.w d (xs ++ [(k, a, b)]) ep')) { s with heap := h', toks := t' } := by
  rw [storedH_new (atKey_new hnew)] at hm
  obtain ⟨o, es, ep', ho, hx, hdt, he, _, _⟩ := hm
  refine ⟨ep', d_write I (by rw [hd]; exact True.intro) sb ⟨o, ho⟩ (dO_new ⟨o, es, ho, hx, hdt, ?_, ?_, by rw [List.length_append, List.length_singleton]; omega, hs⟩)⟩
  · rw [he]
    simp only [entN, List.map_append, List.map_cons, List.map_nil]
  · rw [List.map_append, List.nodup_append]
    refine ⟨hn, by simp, fun x hx y hy e => ?_⟩
    rw [List.map_singleton, List.mem_singleton] at hy
    rw [e, hy] at hx
    exact hnew hx
theorem k_dput (hK : X.K = K) (hP : X.prog = P) (hw : X.w = w) (hu : X.A.units + 65 < cLine) : PSet X (rPutN K P w) := by
  subst hK hP hw
  intro pins s σ H o i v ov iv u Q I ro ri rv h
  obtain ⟨d, xs, ep, k, a, b, rfl, rfl, rfl, hd, hk, ha, hz, hnew, hlen, q⟩ := h
  cases ro
  cases ri
  cases rv
  obtain ⟨hm, hn, hl, hs⟩ := dict_of I hd hk
  refine wpAny_setItem_heap (knd := nestedKind X.prog X.w) (by show X.A.units + 1 + 8 < cLine; omega) ⟨dp_key I _ _ _ ha rfl, hz⟩ hm (fun h' hm' sb => ?_) (by unfold entN; rw [List.length_map]; exact Nat.le_trans hl (by decide))
  obtain ⟨ep', I'⟩ := put_inv (t' := s.toks + (nestedKind X.prog X.w).draws k) I hd hs hnew hn hlen hm' sb
  exact ⟨_, I', q ep'⟩
/-- an empty one -/
theorem dO_empty (I : Inv X pins σ H s) {t' : Nat} : Inv X pins σ (upd H s.heap.objs.size (DO X.prog X.w s.heap.objs.size [] 0)) { s with heap := s.heap.push { cls := .type "dict", data := .dict #[] }, toks := t' } :=
  I.laid (fun b o e => Heap.get?_push_of_some _ e) (Nat.le_refl _) (dO_new ⟨_, #[], Heap.get?_push_size _ rfl, ⟨rfl, rfl, rfl⟩, rfl, rfl, List.nodup_nil, Nat.zero_le _, beq_eq_false_iff_ne.mpr (Ne.symm (Nat.ne_of_lt I.big))⟩)
/-- the keys, walked -/
def ItN (P : Program) (w : World) (d : Addr) (xs : List Ent) (ep : Nat) : It :=
  ⟨fun i H => H d = some (DO P w d xs ep) ∧ i < xs.length, fun i H x H' => H' = H ∧ ∃ e, xs[i]? = some e ∧ x = .ref e.2.1, fun i H => H d = some (DO P w d xs ep) ∧ xs.length ≤ i⟩
theorem turn_N {tg : Expr} (it : Addr) : Turn P w K tg (ItN P w d xs ep) [it] it (fun i h => h.IsKeyIter it d i xs.length ep) where
  mem := List.mem_singleton.mpr rfl
  obj := fun i h st b hb => by
    rw [List.mem_singleton] at hb
    rw [hb]
    obtain ⟨o, e, _, dd⟩ := st
    exact ⟨o, e, fun v z => by rw [dd] at z; cases z⟩
  keep := fun i h h' st k => st.at fun o e => k it (List.mem_singleton.mpr rfl) o e
  item := by
    intro X hP hw hK hc i pins s σ H E I hf st ⟨hd, hi⟩
    subst hP hw hK
    obtain ⟨f0, f1, f2, f3, f4, f5⟩ := hf it (List.mem_singleton.mpr rfl)
    obtain ⟨o, es, ho, hx, hdt, he, hn, hl, hs⟩ := ((I.hok d _ hd).1 : DictB X.prog X.w d xs ep s.heap)
    have hes : es.size = xs.length := by
      rw [← Array.length_toList, he]
      unfold entN
      rw [List.length_map, List.length_map]
    have hen : es[i]? = some (entryOfKey (nestedKind X.prog X.w) (xs[i].1, xs[i].2.1, .ref xs[i].2.2)) := by
      rw [← Array.getElem?_toList, he, List.getElem?_map]
      unfold entN
      rw [List.getElem?_map, List.getElem?_eq_getElem hi]
      rfl
    refine next_key_item st ho hdt hes hen fun h' st' sb => ?_
    have I1 : Inv X pins σ H { s with heap := h' } := I.turned (t' := s.toks) (fun b ob hb e => (sb.2 b hb).trans e) f0 f1 f3 f4 f5
    obtain ⟨oi, e, c, dd⟩ := id st'
    exact ⟨_, rfl, go_of (s := { s with heap := h' }) e c dd (by decide) ⟨.ref xs[i].2.1, H, I1, rfl, ⟨rfl, xs[i], List.getElem?_eq_getElem hi, rfl⟩, st', fun b hb => (hf b hb).1⟩⟩
  done := by
    intro X hP hw hK hc i pins s σ H E I hf st ⟨hd, hi⟩
    subst hP hw hK
    obtain ⟨f0, f1, f2, f3, f4, f5⟩ := hf it (List.mem_singleton.mpr rfl)
    obtain ⟨o, es, ho, hx, hdt, he, hn, hl, hs⟩ := ((I.hok d _ hd).1 : DictB X.prog X.w d xs ep s.heap)
    have hes : es.size = xs.length := by
      rw [← Array.length_toList, he]
      unfold entN
      rw [List.length_map, List.length_map]
    exact next_key_end (I.ok.hd hc) st ho hdt hes hi fun h' eb => ⟨rfl, I.turned (t' := s.toks) (fun b ob hb e => eb b ob hb e) f0 f1 f3 f4 f5⟩
  self := fun A i s Q E st h => wpAny_pyIter_keyiter st h
def iKeysN (P : Program) (w : World) (td : TE) : TI := fun σ H R => td σ H fun x H1 => ∃ d xs ep, x = .ref d ∧ H1 d = some (DO P w d xs ep) ∧ R (ItN P w d xs ep) H1
theorem k_keysN {tg e : Expr} {td : TE} (hP : X.prog = P) (hw : X.w = w) (he : PE X e td) : PI X tg e (iKeysN P w td) := by
  subst hP hw
  refine ⟨fun pins s σ H R I h => ?_⟩
  refine thn (he.run pins s σ H _ I h) fun v s1 ⟨x, H1, I1, r1, d, xs, ep, ex, hd, q⟩ => ?_
  subst ex
  cases r1
  obtain ⟨o, es, ho, hx, hdt, hel, hn, hl, hs⟩ := ((I1.hok d _ hd).1 : DictB X.prog X.w d xs ep s1.heap)
  have hes : es.size = xs.length := by
    rw [← Array.length_toList, hel]
    unfold entN
    rw [List.length_map, List.length_map]
  refine wpAny_pyIter_dict_raw hs ⟨o, ho, hx, hdt⟩ ?_
  refine ⟨s1.heap.objs.size, [s1.heap.objs.size], _, _, H1, rfl, I1.kept (t' := s1.toks) fun b o e => Heap.get?_push_of_some _ e, turn_N s1.heap.objs.size, ?_, fun b hb => ?_, q⟩
  · rw [hes]
    exact ⟨_, Heap.get?_push_size _ rfl, rfl, rfl⟩
  · rw [List.mem_singleton] at hb
    rw [hb]
    exact I1.fpOk (Nat.le_refl _) (I1.hok.fresh (Nat.le_refl _))
end
end Mk
/-! ## MkDict2 -/
set_option autoImplicit true
set_option Elab.async false
set_option linter.all false
set_option maxRecDepth 100000
set_option maxHeartbeats 4000000
/-! {k: v for ..}, the keys nested tuples, each new. -/
namespace Mk
open PySem PySem.Spec PyProof.Rows L2
section
variable {X : Cx}
/-- what stands behind an entry that a comprehension lays -/
def PutsN (K : PySem.W.Frag) (P : Program) (w : World) (D : Addr) (y z : V) (H : Hp) (N : Hp → Prop) : Prop := ∃ xs ep k a b, y = .ref a ∧ z = .ref b ∧ H D = some (DO P w D xs ep) ∧ KeysOk K H xs ∧ Dp K H (.ref a) k.data ∧ k.depth ≤ 8 ∧ k ∉ xs.map (·.1) ∧ xs.length < 100000 ∧ ∀ ep', N (upd H D (DO P w D (xs ++ [(k, a, b)]) ep'))
def tDcN (K : PySem.W.Frag) (P : Program) (w : World) (wi : TI) (g : TG) (tt : TT) (tk tv : TE) (vs : List Nat) : TE := fun σ H Q => wi σ H fun J Ha => ∀ D, Ha D = none → ∃ W : Nat → Nat → Hp → Prop, (∃ m, W 0 m (upd Ha D (DO P w D [] 0))) ∧ ∀ i m Hb, W i m Hb →
  (J.stop i Hb ∧ Q (.ref D) Hb) ∨ (J.go i Hb ∧ ∃ N : Hp → Prop, (∀ H', N H' → ∃ m', m' < m ∧ W (i + 1) m' H') ∧ ∀ x Hc, J.yld i Hb x Hc → g x (wipe σ vs) Hc fun σ2 Hd => wipe σ2 vs = wipe σ vs ∧ tt σ2 Hd fun b He =>
    if b = true then tk σ2 He fun y Hf => tv σ2 Hf fun z Hg => PutsN K P w D y z Hg N else N He)
/-- the entry is laid -/
theorem puts_ok {pins : List (Addr × Obj)} {σ : St} {H : Hp} {s : Shared} {E : Value → Shared → Prop} {D : Addr} {y z : V} {u r : Value} {N : Hp → Prop} {Q : Unit → Shared → Prop} (hu : X.A.units + 65 < cLine) (I : Inv X pins σ H s) (ry : RelV y u) (rz : RelV z r) (h : PutsN X.K X.prog X.w D y z H N)
    (hQ : ∀ s' H', Inv X pins σ H' s' → N H' → Q () s') : wpAny (model X.prog X.w) X.A (dictSet D u r) Q E s := by
  obtain ⟨xs, ep, k, a, b, rfl, rfl, hd, hk, ha, hz, hnew, hlen, q⟩ := h
  cases ry
  cases rz
  obtain ⟨hm, hn, hl, hs⟩ := dict_of I hd hk
  have hkey : (nestedKind X.prog X.w).is s.heap k a := ⟨dp_key I _ _ _ ha rfl, hz⟩
  have hroom : (nestedKind X.prog X.w).room X.A := by show X.A.units + 8 < cLine; omega
  unfold dictSet
  refine wpAny_holding (wpAny_bind ((nestedKind X.prog X.w).pyHash hroom hkey ?_))
  refine wpAny_dictSetHashed_heap (s := { s with toks := s.toks + (nestedKind X.prog X.w).draws k }) hroom hkey hm (fun h' hm' sb => ?_) (by unfold entN; rw [List.length_map]; exact Nat.le_trans hl (by decide))
  obtain ⟨ep', I'⟩ := put_inv (t' := s.toks + (nestedKind X.prog X.w).draws k) I hd hs hnew hn hlen hm' sb
  exact hQ _ _ I' (q ep')
theorem dcN_core {K : PySem.W.Frag} {P : Program} {w : World} {pins : List (Addr × Obj)} {s : Shared} {σ : St} {H : Hp} {Q : VK} {kx vx tg it0 : Expr} {ifs : List Expr} {scope : Scope} {own : List (Str × Nat)} {pos pos' : Pos} {wi : TI} {g : TG} {tt : TT} {tk tv : TE} {use : Option (Value → Sem Unit)} {Qf : Value → Shared → Prop}
    (hK : X.K = K) (hP : X.prog = P) (hw : X.w = w) (hu : X.A.units + 65 < cLine) (hc : X.calm = true) (hN : X.N.Nodup) (I : Inv X pins σ H s) (hi : PI X tg it0 wi) (ok : BlkOk X.N X.env.scope scope own)
    (hg : ∀ (s : Shared) (H : Hp) (C : Addr) (cl : List (Str × Addr)) (fp : List Addr), PG (X.blk s H scope (compEnvC scope cl C X.env) fp) tg g)
    (ht : ∀ (s : Shared) (H : Hp) (C : Addr) (cl : List (Str × Addr)) (fp : List Addr), PTs (X.blk s H scope (compEnvC scope cl C X.env) fp) ifs tt)
    (hk : ∀ (s : Shared) (H : Hp) (C : Addr) (cl : List (Str × Addr)) (fp : List Addr), PE (X.blk s H scope (compEnvC scope cl C X.env) fp) kx tk)
    (hv : ∀ (s : Shared) (H : Hp) (C : Addr) (cl : List (Str × Addr)) (fp : List Addr), PE (X.blk s H scope (compEnvC scope cl C X.env) fp) vx tv)
    (hs : ∀ x, foldedSetIterable it0 X.env x = pure x) (h : tDcN K P w wi g tt tk tv (own.map (·.2)) σ H Q)
    (hR : ∀ D C s' m H', Inv X pins σ H' s' → Q (.ref D) H' → s'.heap.Ns C m → FpOk X pins H' C → compPost (model X.prog X.w) X.A X.xe use Qf (.ref D) C (.ok .next) s') :
    wpAny (model X.prog X.w) X.A (comprehension (.DictComp kx vx [⟨tg, it0, ifs, 0⟩] scope pos) scope X.env pos' newDict false (eval it0 X.env) use) Qf X.xe s := by
  subst hK hP hw
  have hcells : ∀ y ∈ scope.names, y.2 = .free → ∃ c, X.env.cells.lookup y.1 = some c := fun y hy e => (ok.free y hy e).elim (fun k => I.ok.has _ (.inl k)) fun k => I.ok.has _ (.inr k)
  refine wpAny_comprehension_free (use := use) rfl hs (closure_ok hcells) ok.kind (fun y hy e => by rw [ok.uniq y hy, e]) (thn (hi.run pins s σ H _ I h) fun xv sa hx => thn hx fun itv sb hb => ?_)
  obtain ⟨it, fp, tn, J, Ha, rfl, Ia, T, sta, fpa, q⟩ := hb
  refine wpAny_newObj_type (newEnv_comp ?_)
  have hDn : Ha sb.heap.objs.size = none := Ia.hok.fresh (Nat.le_refl _)
  obtain ⟨W, ⟨m0, w0⟩, turn⟩ := q _ hDn
  generalize hD : sb.heap.objs.size = D at hDn w0 turn
  generalize hsc : ({ sb with heap := sb.heap.push { cls := .type "dict", data := .dict #[] } } : Shared) = sc
  have hsch : sc.heap = sb.heap.push { cls := .type "dict", data := .dict #[] } := by rw [← hsc]
  have Ic : Inv X pins σ (upd Ha D (DO X.prog X.w D [] 0)) sc := by
    rw [← hsc, ← hD]
    exact dO_empty Ia (t' := sb.toks)
  generalize hHc : upd Ha D (DO X.prog X.w D [] 0) = Hc at Ic w0
  have fpc : ∀ b ∈ fp, FpOk X pins Hc b ∧ b < sc.heap.objs.size := fun b hb => by
    obtain ⟨o, e, _⟩ := T.obj _ _ sta b hb
    have hlt := Heap.lt_size e
    refine ⟨⟨?_, (fpa b hb).2⟩, by rw [hsch, Heap.size_push]; exact Nat.lt_succ_of_lt hlt⟩
    rw [← hHc, upd_ne (by rw [← hD]; exact Nat.ne_of_lt hlt)]
    exact (fpa b hb).1
  have stc : tn 0 sc.heap := T.keep _ _ _ sta fun b _ o e => by rw [hsch]; exact Heap.get?_push_of_some _ e
  have Id := block_start Ic ok hN fpc
  have pg := hg sc Hc sc.heap.objs.size (cellsFrom (sc.heap.objs.size + 1) scope.names (cloFrom X.env.cells scope.names [])) fp
  have pt := ht sc Hc sc.heap.objs.size (cellsFrom (sc.heap.objs.size + 1) scope.names (cloFrom X.env.cells scope.names [])) fp
  have pk := hk sc Hc sc.heap.objs.size (cellsFrom (sc.heap.objs.size + 1) scope.names (cloFrom X.env.cells scope.names [])) fp
  have pv := hv sc Hc sc.heap.objs.size (cellsFrom (sc.heap.objs.size + 1) scope.names (cloFrom X.env.cells scope.names [])) fp
  show codeAny _ _ (.compStart (.DictComp kx vx [⟨tg, it0, ifs, 0⟩] scope pos) 0 (.ref it) (.ref D) (compEnvC scope (cellsFrom (sc.heap.objs.size + 1) scope.names (cloFrom X.env.cells scope.names [])) sc.heap.objs.size X.env)) (compPost (model X.prog X.w) X.A X.xe use Qf (.ref D) sc.heap.objs.size) { sc with heap := pushCells (sc.heap.push { cls := .type "dict", data := .dict #[] }) scope.names }
  have nfp : ∀ b ∈ fp, Hc b = none := fun b hb => (fpc b hb).1.1
  generalize henv : compEnvC scope (cellsFrom (sc.heap.objs.size + 1) scope.names (cloFrom X.env.cells scope.names [])) sc.heap.objs.size X.env = ce at Id pg pt pk pv ⊢
  have hloc : ce.locals = sc.heap.objs.size := by rw [← henv]; rfl
  generalize hsd : ({ sc with heap := pushCells (sc.heap.push { cls := .type "dict", data := .dict #[] }) scope.names } : Shared) = sd at Id ⊢
  have std : tn 0 sd.heap := T.keep _ _ _ stc fun b _ o e => by rw [← hsd]; exact pushCells_keeps _ _ _ _ (Heap.get?_push_of_some _ e)
  have still : ∀ {σ' : St} {H' : Hp} {s' : Shared}, Inv (X.blk sc Hc scope ce fp) [] σ' H' s' → (∀ b ∈ fp, H' b = none) → ∀ b ∈ fp, FpOk (X.blk sc Hc scope ce fp) [] H' b := fun {σ' H' s'} I' hn b hb =>
    ⟨hn b hb, (I'.ok.exf b hb).1, I'.ok.exfs b hb, .inl hb, fun x c e => (I'.ok.exf b hb).2 x c e, fun p hp => absurd (show p ∈ ([] : List (Addr × Obj)) ++ [] from hp) (by simp)⟩
  have loop : codeAny (model X.prog X.w) X.A (.compLoop (.DictComp kx vx [⟨tg, it0, ifs, 0⟩] scope pos) 0 (.ref it) (.ref D) ce) (compPost (model X.prog X.w) X.A X.xe use Qf (.ref D) sc.heap.objs.size) sd := by
    refine compLoop_anyD (fun n s' => ∃ i H', Inv (X.blk sc Hc scope ce fp) [] (wipe σ (own.map (·.2))) H' s' ∧ tn i s'.heap ∧ (∀ b ∈ fp, H' b = none) ∧ W i n H') ?_ m0 ⟨0, Hc, Id, std, nfp, w0⟩
    rintro n se ⟨i, He, Ie, ste, ne, we⟩
    rcases turn i n He we with ⟨stop, fin⟩ | ⟨go, N, hNx, step⟩
    · refine thnF (T.done (X.blk sc Hc scope ce fp) rfl rfl rfl hc i [] se _ He (fun _ _ => False) Ie (still Ie ne) ste stop) fun r sf ⟨hr, If⟩ => ?_
      subst hr
      have Ig : Inv X pins σ He sf := Ic.call' (ch := fp) If.os If.base If.hok If.bare fun b hb => ⟨(fpc b hb).1.2.2.2.1, (fpc b hb).1.2.1, (fpc b hb).1.2.2.2.2.1, (fpc b hb).1.2.2.2.2.2⟩
      have nC : He sc.heap.objs.size = none := by
        rw [← hloc]
        exact If.free
      obtain ⟨m, hn, _⟩ := If.loc
      have hn : sf.heap.Ns ce.locals m := hn
      rw [hloc] at hn
      exact hR D sc.heap.objs.size sf m He Ig fin hn (Ic.fpOk (Nat.le_refl _) nC)
    · refine thnF (T.item (X.blk sc Hc scope ce fp) rfl rfl rfl hc i [] se _ He (fun _ _ => False) Ie (still Ie ne) ste go) fun r sf ⟨u, hr, hf⟩ => ?_
      subst hr
      refine thnF hf fun _ sg ⟨x, Hg, Ig, rg, yg, stg, ng⟩ => ?_
      refine thnF (pg.run _ sg _ Hg x u _ (Ig.pinned (still Ig ng) (T.obj _ _ stg)) rg (step x Hg yg)) fun _ sh ⟨σh, Hh, Ih, hw, qh⟩ => ?_
      refine thnF (pt.run _ sh σh Hh _ Ih qh) fun b si ⟨Hi, Ii, qi⟩ => ?_
      have back : ∀ {s' : Shared} {H' : Hp}, Inv (X.blk sc Hc scope ce fp) ([] ++ pinsAt fp sg.heap) σh H' s' → N H' → ∃ m, m < n ∧ ∃ i H', Inv (X.blk sc Hc scope ce fp) [] (wipe σ (own.map (·.2))) H' s' ∧ tn i s'.heap ∧ (∀ b ∈ fp, H' b = none) ∧ W i m H' := fun {s' H'} I' hN' => by
        obtain ⟨m', hm, w'⟩ := hNx H' hN'
        have pinned : ∀ b ∈ fp, ∀ o, sg.heap.get? b = some o → s'.heap.get? b = some o ∧ H' b = none := fun b hb o e =>
          have z := I'.pin (b, o) (List.mem_append_right _ (List.mem_append_right _ (mem_pinsAt hb e)))
          ⟨z.1, z.2.1⟩
        refine ⟨m', hm, i + 1, H', (I'.unpinned (pins := [])).weak (by rw [← hw, wipe_length]) (fun j v e => ?_), T.keep _ _ _ stg fun b hb o e => (pinned b hb o e).1, fun b hb => ?_, w'⟩
        · rw [← hw] at e
          exact (wipe_some e).1
        · obtain ⟨o, e, _⟩ := T.obj _ _ stg b hb
          exact (pinned b hb o e).2
      cases b with
      | false =>
        rw [if_neg Bool.false_ne_true] at qi
        simp only [Bool.false_eq_true, if_false]
        exact back Ii qi
      | true =>
        rw [if_pos rfl] at qi
        simp only [if_true]
        refine thnF (pk.run _ si σh Hi _ Ii qi) fun y sj ⟨vy, Hj, Ij, rj, qj⟩ => ?_
        refine thnF (pv.run _ sj σh Hj _ Ij qj) fun z sk ⟨vz, Hk, Ik, rk, qk⟩ => ?_
        exact puts_ok (X := X.blk sc Hc scope ce fp) hu Ik rj rk qk fun sl Hl Il nl => back Il nl
  exact codeAny_compStart_dict loop (T.self X.A 0 _ _ _ std loop)
theorem k_dc {K : PySem.W.Frag} {P : Program} {w : World} {kx vx tg it0 : Expr} {ifs : List Expr} {scope : Scope} {own : List (Str × Nat)} {pos : Pos} {wi : TI} {g : TG} {tt : TT} {tk tv : TE}
    (hK : X.K = K) (hP : X.prog = P) (hw : X.w = w) (hu : X.A.units + 65 < cLine) (hc : X.calm = true) (hN : X.N.Nodup) (hi : PI X tg it0 wi) (ok : BlkOk X.N X.env.scope scope own)
    (hg : ∀ (s : Shared) (H : Hp) (C : Addr) (cl : List (Str × Addr)) (fp : List Addr), PG (X.blk s H scope (compEnvC scope cl C X.env) fp) tg g)
    (ht : ∀ (s : Shared) (H : Hp) (C : Addr) (cl : List (Str × Addr)) (fp : List Addr), PTs (X.blk s H scope (compEnvC scope cl C X.env) fp) ifs tt)
    (hk : ∀ (s : Shared) (H : Hp) (C : Addr) (cl : List (Str × Addr)) (fp : List Addr), PE (X.blk s H scope (compEnvC scope cl C X.env) fp) kx tk)
    (hv : ∀ (s : Shared) (H : Hp) (C : Addr) (cl : List (Str × Addr)) (fp : List Addr), PE (X.blk s H scope (compEnvC scope cl C X.env) fp) vx tv)
    (hs : ∀ x, foldedSetIterable it0 X.env x = pure x := by intro _; rfl) : PE X (.DictComp kx vx [⟨tg, it0, ifs, 0⟩] scope pos) (tDcN K P w wi g tt tk tv (own.map (·.2))) := by
  refine ⟨fun pins s σ H Q I h => ?_⟩
  rw [arm_eval_DictComp]
  refine dcN_core hK hP hw hu hc hN I hi ok hg ht hk hv hs h fun D C s' m H' I' q hn f => ⟨m, hn, fun h'' sb => ?_⟩
  obtain ⟨f0, f1, f2, f3, f4, f5⟩ := f
  exact ⟨.ref D, H', I'.turned (t' := s'.toks) (fun b o hb e => (sb.2 b hb).trans e) f0 f1 f3 f4 f5, rfl, q⟩
end
end Mk
/-! ## MkUndone -/
set_option autoImplicit true
set_option autoImplicit false
set_option linter.all false
namespace MkM
/-! The walk over what a log can still do: states, lots, logs. Plain. -/
section
variable {α : Type} [DecidableEq α]
theorem sub_drop1 (w x : List α) (a : α) : w.Sublist (a :: x) ↔ (if w.take 1 = [a] then w.drop 1 else w).Sublist x := by
  cases w with
  | nil => simp
  | cons b w =>
    show _ ↔ (if [b] = [a] then w else b :: w).Sublist x
    by_cases e : b = a
    · subst e
      rw [if_pos rfl]
      exact List.cons_sublist_cons
    · rw [if_neg (by simpa using e)]
      constructor
      · intro h
        rcases List.sublist_cons_iff.mp h with h | ⟨r, er, _⟩
        · exact h
        · exact absurd (List.cons.inj er).1 e
      · exact fun h => h.cons a
theorem sub_snoc (l L : List α) (a : α) : l.Sublist (L ++ [a]) ↔ l.Sublist L ∨ (l.dropLast.Sublist L ∧ l.drop (l.length - 1) = [a]) := by
  constructor
  · intro h
    obtain ⟨l1, l2, rfl, h1, h2⟩ := List.sublist_append_iff.mp h
    rcases List.sublist_cons_iff.mp h2 with h2 | ⟨r, rfl, h3⟩
    · rw [List.sublist_nil] at h2
      subst h2
      rw [List.append_nil]
      exact .inl h1
    · rw [List.sublist_nil] at h3
      subst h3
      refine .inr ⟨?_, ?_⟩
      · rw [List.dropLast_concat]
        exact h1
      · rw [List.length_append, List.length_singleton, Nat.add_sub_cancel, List.drop_left]
  · rintro (h | ⟨h, e⟩)
    · exact h.trans (List.sublist_append_left _ _)
    · have : l = l.dropLast ++ [a] := by
        have hl := List.take_append_drop (l.length - 1) l
        rw [e, ← List.dropLast_eq_take] at hl
        exact hl.symm
      rw [this]
      exact List.Sublist.append h (List.Sublist.refl _)
variable (O : Ord α)
def stepM (st : List (List α)) (a : α) : List (List α) := leastOf O (st.map fun x => if x.take 1 = [a] then x.drop 1 else x)
theorem does_step (st : List (List α)) (a : α) (x : List α) : does (stepM O st a) x = does st (a :: x) := by
  unfold stepM
  rw [does_leastOf, Bool.eq_iff_iff, does_iff, does_iff]
  constructor
  · rintro ⟨w, hw, s⟩
    obtain ⟨v, hv, rfl⟩ := List.mem_map.mp hw
    exact ⟨v, hv, (sub_drop1 v x a).mpr s⟩
  · rintro ⟨v, hv, s⟩
    exact ⟨_, List.mem_map.mpr ⟨v, hv, rfl⟩, (sub_drop1 v x a).mp s⟩
theorem base_empty {b : List (List α)} (hb : Base O b) (h : does b [] = true) : b = [[]] := by
  obtain ⟨w, hw, s⟩ := (does_iff b []).mp h
  rw [List.sublist_nil] at s
  subst s
  have hall : ∀ v ∈ b, v = [] := fun v hv => (hb.anti [] hw v hv (List.nil_sublist v)).symm
  have hn := base_nodup O hb
  match b, hw, hall, hn with
  | [v], _, hall, _ => rw [hall v List.mem_cons_self]
  | v :: u :: r, _, hall, hn =>
    have e1 := hall v List.mem_cons_self
    have e2 := hall u (List.mem_cons_of_mem _ List.mem_cons_self)
    rw [List.nodup_cons] at hn
    exact absurd (by rw [e1, e2]; exact List.mem_cons_self) hn.1
theorem base_some {b : List (List α)} (hb : Base O b) (h : b ≠ [[]]) : does b [] = false := by
  cases e : does b [] with
  | false => rfl
  | true => exact absurd (base_empty O hb e) h
end
/-- a row of the walk -/
structure Rw (α : Type) where
  st : List (List α)
  lot : List (List α)
  log : List α
section
variable {α : Type} [DecidableEq α] (O : Ord α)
def moreM (short lot : List (List α)) (a : α) : List (List α) := short.filter fun l => decide (l ∈ lot) || (decide (l.dropLast ∈ lot) && decide (l.drop (l.length - 1) = [a]))
def rowOf (short : List (List α)) (r : Rw α) (a : α) : Rw α := ⟨stepM O r.st a, moreM short r.lot a, r.log ++ [a]⟩
def fresh (es : List (Rw α)) (r : Rw α) : Bool := !decide (r.st = [[]]) && !(es.any fun e => decide (e.st = r.st) && decide (e.lot = r.lot))
def addOne (short : List (List α)) (es : List (Rw α)) (r : Rw α) (a : α) : List (Rw α) := if fresh es (rowOf O short r a) = true then es ++ [rowOf O short r a] else es
def turn (short : List (List α)) (names : List α) (es : List (Rw α)) (r : Rw α) : List (Rw α) := names.foldl (fun es a => addOne O short es r a) es
def bfs (short : List (List α)) (names : List α) : Nat → List (Rw α) → Nat → List (Rw α)
  | 0, es, _ => es
  | n + 1, es, i => match es[i]? with
    | none => es
    | some r => bfs short names n (turn O short names es r) (i + 1)
theorem bfs_step {short : List (List α)} {names : List α} {n i : Nat} {es : List (Rw α)} {r : Rw α} (hr : es[i]? = some r) : bfs O short names (n + 1) es i = bfs O short names n (turn O short names es r) (i + 1) := by
  have key : bfs O short names (n + 1) es i = match es[i]? with | none => es | some r => bfs O short names n (turn O short names es r) (i + 1) := rfl
  rw [key, hr]
theorem bfs_none {short : List (List α)} {names : List α} {n i : Nat} {es : List (Rw α)} (hr : es[i]? = none) : bfs O short names n es i = es := by
  cases n with
  | zero => rfl
  | succ n =>
    have key : bfs O short names (n + 1) es i = match es[i]? with | none => es | some r => bfs O short names n (turn O short names es r) (i + 1) := rfl
    rw [key, hr]
def row0 (h : List (List α)) : List (Rw α) := if h = [[]] then [] else [⟨h, [[]], []⟩]
def allRows (short : List (List α)) (names : List α) (h : List (List α)) : List (Rw α) := bfs O short names 32768 (row0 h) 0
def widest (es : List (Rw α)) : List (Rw α) := es.filter fun e => !(es.any fun f => !decide (e.lot = f.lot) && e.lot.all fun l => decide (l ∈ f.lot))
def undone (short : List (List α)) (names : List α) (h : List (List α)) : List (List α) := (widest (allRows O short names h)).map Rw.log
/-- what the walk is over -/
structure Ground (h : List (List α)) (names : List α) (short : List (List α)) : Prop where
  base : Base O h
  sub : ∀ w ∈ h, w ∈ short
  closed : ∀ w ∈ short, ∀ v, v.Sublist w → v ∈ short
  nd : short.Nodup
  nil : [] ∈ short
  few : short.length ≤ 15
structure Gd (h : List (List α)) (names : List α) (short : List (List α)) (e : Rw α) : Prop where
  base : Base O e.st
  dz : ∀ x, does e.st x = does h (e.log ++ x)
  lot : e.lot = short.filter fun l => isPart l e.log
  ne : e.st ≠ [[]]
  sub : ∀ w ∈ e.st, w ∈ short
  let_ : ∀ x ∈ e.log, x ∈ names
structure Good (h : List (List α)) (names : List α) (short : List (List α)) (es : List (Rw α)) : Prop where
  each : ∀ e ∈ es, Gd O h names short e
  nd : (es.map Rw.lot).Nodup
  len : ∀ (i : Nat) (e : Rw α), es[i]? = some e → e.log.length ≤ i
variable {O}
variable {h : List (List α)} {names : List α} {short : List (List α)} {es : List (Rw α)}
theorem lot_state (g : Ground O h names short) {L M : List α} (e : (short.filter fun l => isPart l L) = short.filter fun l => isPart l M) (x : List α) : does h (L ++ x) = does h (M ++ x) := by
  have half : ∀ L M : List α, (short.filter fun l => isPart l L) = (short.filter fun l => isPart l M) → does h (L ++ x) = true → does h (M ++ x) = true := by
    intro L M e hL
    obtain ⟨w, hw, s⟩ := (does_iff h _).mp hL
    obtain ⟨u, v, rfl, h1, h2⟩ := List.sublist_append_iff.mp s
    have hu : u ∈ short := g.closed _ (g.sub _ hw) u (List.sublist_append_left _ _)
    have : u ∈ short.filter fun l => isPart l L := List.mem_filter.mpr ⟨hu, (isPart_iff u L).mpr h1⟩
    rw [e] at this
    have h3 := (isPart_iff u M).mp (List.mem_filter.mp this).2
    exact (does_iff h _).mpr ⟨_, hw, List.Sublist.append h3 h2⟩
  rw [Bool.eq_iff_iff]
  exact ⟨half L M e, half M L e.symm⟩
theorem more_lot (g : Ground O h names short) {lot : List (List α)} {L : List α} (e : lot = short.filter fun l => isPart l L) (a : α) : moreM short lot a = short.filter fun l => isPart l (L ++ [a]) := by
  unfold moreM
  refine List.filter_congr fun l hl => ?_
  have h1 : l ∈ lot ↔ l.Sublist L := by
    rw [e, List.mem_filter, isPart_iff]
    exact ⟨fun x => x.2, fun x => ⟨hl, x⟩⟩
  have h2 : l.dropLast ∈ lot ↔ l.dropLast.Sublist L := by
    rw [e, List.mem_filter, isPart_iff]
    exact ⟨fun x => x.2, fun x => ⟨g.closed l hl _ (List.dropLast_sublist l), x⟩⟩
  rw [Bool.eq_iff_iff, Bool.or_eq_true, Bool.and_eq_true, decide_eq_true_iff, decide_eq_true_iff, decide_eq_true_iff, isPart_iff, sub_snoc, h1, h2]
theorem good_row (g : Ground O h names short) {r : Rw α} (hr : Gd O h names short r) {a : α} (ha : a ∈ names) (hne : (rowOf O short r a).st ≠ [[]]) : Gd O h names short (rowOf O short r a) where
  base := leastOf_base O _
  dz x := by
    show does (stepM O r.st a) x = does h ((r.log ++ [a]) ++ x)
    rw [does_step, hr.dz, List.append_assoc]
    rfl
  lot := more_lot g hr.lot a
  ne := hne
  sub w hw := by
    obtain ⟨v, hv, rfl⟩ := List.mem_map.mp (leastOf_mem O hw)
    refine g.closed v (hr.sub v hv) _ ?_
    split
    · exact List.drop_sublist 1 v
    · exact List.Sublist.refl v
  let_ x hx := by
    rcases List.mem_append.mp hx with hx | hx
    · exact hr.let_ x hx
    · rw [List.mem_singleton] at hx
      rw [hx]
      exact ha
theorem fresh_iff {r : Rw α} : fresh es r = true ↔ r.st ≠ [[]] ∧ ∀ e ∈ es, ¬ (e.st = r.st ∧ e.lot = r.lot) := by
  unfold fresh
  rw [Bool.and_eq_true, Bool.not_eq_true', decide_eq_false_iff_not, Bool.not_eq_true', List.any_eq_false]
  refine and_congr_right fun _ => forall_congr' fun e => forall_congr' fun _ => ?_
  rw [Bool.and_eq_true, decide_eq_true_iff, decide_eq_true_iff]
theorem good_add (g : Ground O h names short) (G : Good O h names short es) {r : Rw α} (hr : Gd O h names short r) (hl : r.log.length < es.length) {a : α} (ha : a ∈ names) : Good O h names short (addOne O short es r a) := by
  unfold addOne
  split
  · rename_i hf
    obtain ⟨h1, h2⟩ := fresh_iff.mp hf
    have hn := good_row g hr ha h1
    refine ⟨fun e he => ?_, ?_, fun i e he => ?_⟩
    · rcases List.mem_append.mp he with he | he
      · exact G.each e he
      · rw [List.mem_singleton] at he
        rw [he]
        exact hn
    · rw [List.map_append, List.nodup_append]
      refine ⟨G.nd, by simp, fun x hx y hy e => ?_⟩
      rw [List.map_singleton, List.mem_singleton] at hy
      obtain ⟨f, hf, rfl⟩ := List.mem_map.mp hx
      have el : f.lot = (rowOf O short r a).lot := e.trans hy
      have gf := G.each f hf
      refine h2 f hf ⟨base_unique O gf.base hn.base fun x => ?_, el⟩
      rw [gf.dz, hn.dz]
      exact lot_state g (by rw [← gf.lot, ← hn.lot, el]) x
    · rcases Nat.lt_or_ge i es.length with z | z
      · rw [List.getElem?_append_left z] at he
        exact G.len i e he
      · rw [List.getElem?_append_right z] at he
        have e0 : i - es.length = 0 := by
          rcases Nat.eq_zero_or_pos (i - es.length) with q | q
          · exact q
          · rw [List.getElem?_eq_none (by rw [List.length_singleton]; omega)] at he
            cases he
        rw [e0] at he
        have e1 : rowOf O short r a = e := Option.some.inj he
        rw [← e1]
        show (r.log ++ [a]).length ≤ i
        rw [List.length_append, List.length_singleton]
        omega
  · exact G
theorem add_ext (r : Rw α) (a : α) : ∃ t, addOne O short es r a = es ++ t := by
  unfold addOne
  split
  · exact ⟨_, rfl⟩
  · exact ⟨[], (List.append_nil _).symm⟩
/-- the row's step is there -/
def Has (O : Ord α) (short : List (List α)) (es : List (Rw α)) (r : Rw α) (a : α) : Prop := (rowOf O short r a).st = [[]] ∨ ∃ e ∈ es, e.st = (rowOf O short r a).st ∧ e.lot = (rowOf O short r a).lot
theorem Has.ext {r : Rw α} {a : α} (x : Has O short es r a) (t : List (Rw α)) : Has O short (es ++ t) r a := by
  rcases x with x | ⟨e, he, x⟩
  · exact .inl x
  · exact .inr ⟨e, List.mem_append_left _ he, x⟩
theorem add_has (r : Rw α) (a : α) : Has O short (addOne O short es r a) r a := by
  unfold addOne
  by_cases hf : fresh es (rowOf O short r a) = true
  · rw [if_pos hf]
    exact .inr ⟨_, List.mem_append_right _ List.mem_cons_self, rfl, rfl⟩
  · rw [if_neg hf]
    by_cases e : (rowOf O short r a).st = [[]]
    · exact .inl e
    · refine .inr ?_
      have : ¬ ((rowOf O short r a).st ≠ [[]] ∧ ∀ e ∈ es, ¬ (e.st = (rowOf O short r a).st ∧ e.lot = (rowOf O short r a).lot)) := fun q => hf (fresh_iff.mpr q)
      rcases Classical.em (∃ e ∈ es, e.st = (rowOf O short r a).st ∧ e.lot = (rowOf O short r a).lot) with q | q
      · exact q
      · exact absurd ⟨e, fun f hf hq => q ⟨f, hf, hq⟩⟩ this
theorem fold_good (g : Ground O h names short) {r : Rw α} (hr : Gd O h names short r) : ∀ (ns : List α) (es : List (Rw α)), (∀ a ∈ ns, a ∈ names) → r.log.length < es.length → Good O h names short es →
    Good O h names short (ns.foldl (fun es a => addOne O short es r a) es) ∧ (∃ t, ns.foldl (fun es a => addOne O short es r a) es = es ++ t) ∧ ∀ a ∈ ns, Has O short (ns.foldl (fun es a => addOne O short es r a) es) r a
  | [], es, _, _, G => ⟨G, ⟨[], (List.append_nil _).symm⟩, fun _ z => nomatch z⟩
  | a :: ns, es, hn, hl, G => by
    have hl2 : r.log.length < (addOne O short es r a).length := by
      obtain ⟨u, hu⟩ := add_ext (O := O) (short := short) (es := es) r a
      rw [hu, List.length_append]
      omega
    obtain ⟨h1, ⟨t, h2⟩, h3⟩ := fold_good g hr ns (addOne O short es r a) (fun b hb => hn b (List.mem_cons_of_mem _ hb)) hl2 (good_add g G hr hl (hn a List.mem_cons_self))
    refine ⟨h1, ?_, fun b hb => ?_⟩
    · obtain ⟨u, hu⟩ := add_ext (O := O) (short := short) (es := es) r a
      exact ⟨u ++ t, by show List.foldl _ (addOne O short es r a) ns = _; rw [h2, hu, List.append_assoc]⟩
    · rcases List.mem_cons.mp hb with rfl | hb
      · show Has O short (List.foldl _ (addOne O short es r b) ns) r b
        rw [h2]
        exact (add_has r b).ext t
      · exact h3 b hb
theorem turn_good (g : Ground O h names short) (G : Good O h names short es) {r : Rw α} (hr : Gd O h names short r) (hl : r.log.length < es.length) : Good O h names short (turn O short names es r) ∧ (∃ t, turn O short names es r = es ++ t) ∧ ∀ a ∈ names, Has O short (turn O short names es r) r a :=
  fold_good g hr names es (fun _ h => h) hl G
/-- all sub-rows of a list -/
def subs {β : Type} : List β → List (List β)
  | [] => [[]]
  | x :: l => subs l ++ (subs l).map (x :: ·)
theorem subs_len {β : Type} : ∀ l : List β, (subs l).length = 2 ^ l.length
  | [] => rfl
  | x :: l => by
    show (subs l ++ (subs l).map _).length = _
    rw [List.length_append, List.length_map, subs_len l, List.length_cons, Nat.pow_succ]
    omega
theorem filter_subs {β : Type} (p : β → Bool) : ∀ l : List β, l.filter p ∈ subs l
  | [] => List.mem_cons_self
  | x :: l => by
    show (x :: l).filter p ∈ subs l ++ (subs l).map (x :: ·)
    rw [List.filter_cons, List.mem_append]
    split
    · exact .inr (List.mem_map.mpr ⟨_, filter_subs p l, rfl⟩)
    · exact .inl (filter_subs p l)
theorem good_len (g : Ground O h names short) (G : Good O h names short es) : es.length ≤ 32768 := by
  have h1 : (es.map Rw.lot).length ≤ (subs short).length := List.Nodup.length_le_of_subset G.nd fun x hx => by
    obtain ⟨e, he, rfl⟩ := List.mem_map.mp hx
    rw [(G.each e he).lot]
    exact filter_subs _ _
  rw [List.length_map, subs_len] at h1
  calc es.length ≤ 2 ^ short.length := h1
    _ ≤ 2 ^ 15 := Nat.pow_le_pow_right (by omega) g.few
    _ = 32768 := by decide
/-- rows before i are walked -/
def Walked (O : Ord α) (names : List α) (short : List (List α)) (es : List (Rw α)) (i : Nat) : Prop := ∀ j r, j < i → es[j]? = some r → ∀ a ∈ names, Has O short es r a
theorem bfs_end (g : Ground O h names short) : ∀ (n : Nat) (es : List (Rw α)) (i : Nat), Good O h names short es → Walked O names short es i → i ≤ es.length → 32768 ≤ i + n →
    Good O h names short (bfs O short names n es i) ∧ Walked O names short (bfs O short names n es i) (bfs O short names n es i).length ∧ ∃ t, bfs O short names n es i = es ++ t
  | 0, es, i, G, W, hi, hn => by
    have := good_len g G
    have e : i = es.length := by omega
    subst e
    exact ⟨G, W, [], (List.append_nil _).symm⟩
  | n + 1, es, i, G, W, hi, hn => by
    have key : bfs O short names (n + 1) es i = match es[i]? with | none => es | some r => bfs O short names n (turn O short names es r) (i + 1) := rfl
    rw [key]
    cases e : es[i]? with
    | none =>
      have : es.length ≤ i := List.getElem?_eq_none_iff.mp e
      have e2 : i = es.length := by omega
      subst e2
      exact ⟨G, W, [], (List.append_nil _).symm⟩
    | some r =>
      have hr := G.each r (List.mem_of_getElem? e)
      have hlt : i < es.length := (List.getElem?_eq_some_iff.mp e).1
      obtain ⟨h1, ⟨t, h2⟩, h3⟩ := turn_good g G hr (Nat.lt_of_le_of_lt (G.len i r e) hlt)
      have W' : Walked O names short (turn O short names es r) (i + 1) := by
        intro j r' hj hr' a ha
        have hjl : j < es.length := by omega
        have hr2 := hr'
        rw [h2, List.getElem?_append_left hjl] at hr2
        by_cases ej : j = i
        · subst ej
          rw [e] at hr2
          cases hr2
          exact h3 a ha
        · rw [h2]
          exact (W j r' (by omega) hr2 a ha).ext t
      obtain ⟨k1, k2, u, k3⟩ := bfs_end g n _ (i + 1) h1 W' (by rw [h2, List.length_append]; omega) (by omega)
      exact ⟨k1, k2, t ++ u, by show bfs O short names n (turn O short names es r) (i + 1) = _; rw [k3, h2, List.append_assoc]⟩
theorem lot_nil (g : Ground O h names short) : (short.filter fun l => isPart l []) = [[]] := by
  have hm : [] ∈ short.filter fun l => isPart l [] := List.mem_filter.mpr ⟨g.nil, isPart_self []⟩
  have hn : (short.filter fun l => isPart l []).Nodup := g.nd.filter _
  have hall : ∀ v ∈ short.filter fun l => isPart l [], v = [] := fun v hv => List.sublist_nil.mp ((isPart_iff v []).mp (List.mem_filter.mp hv).2)
  generalize (short.filter fun l => isPart l []) = b at hm hn hall
  match b, hm, hall, hn with
  | [v], _, hall, _ => rw [hall v List.mem_cons_self]
  | v :: u :: r, _, hall, hn =>
    have e1 := hall v List.mem_cons_self
    have e2 := hall u (List.mem_cons_of_mem _ List.mem_cons_self)
    rw [List.nodup_cons] at hn
    exact absurd (by rw [e1, e2]; exact List.mem_cons_self) hn.1
theorem good_0 (g : Ground O h names short) : Good O h names short (row0 h) := by
  unfold row0
  split
  · exact ⟨(fun _ z => nomatch z), List.nodup_nil, fun i e he => by simp at he⟩
  · rename_i hne
    refine ⟨fun e he => ?_, by simp, fun i e he => ?_⟩
    rotate_left
    · have : e ∈ [(⟨h, [[]], []⟩ : Rw α)] := List.mem_of_getElem? he
      rw [List.mem_singleton] at this
      rw [this]
      exact Nat.zero_le _
    rw [List.mem_singleton] at he
    subst he
    exact ⟨g.base, fun x => rfl, (lot_nil g).symm, hne, g.sub, fun _ z => nomatch z⟩
theorem all_end (g : Ground O h names short) : Good O h names short (allRows O short names h) ∧ Walked O names short (allRows O short names h) (allRows O short names h).length ∧ ∃ t, allRows O short names h = row0 h ++ t :=
  bfs_end g 32768 (row0 h) 0 (good_0 g) (fun _ _ z => absurd z (Nat.not_lt_zero _)) (Nat.zero_le _) (by omega)
/-- every undone log has its row -/
theorem reach (g : Ground O h names short) : ∀ (n : Nat) (L : List α), L.length = n → (∀ x ∈ L, x ∈ names) → does h L = false → ∃ e ∈ allRows O short names h, e.lot = short.filter fun l => isPart l L
  | 0, L, hl, _, hd => by
    have e := List.length_eq_zero_iff.mp hl
    subst e
    obtain ⟨_, _, t, ht⟩ := all_end g
    have hne : h ≠ [[]] := fun e => by
      rw [e] at hd
      have : does [[]] ([] : List α) = true := (does_iff _ _).mpr ⟨[], List.mem_cons_self, List.Sublist.refl _⟩
      rw [this] at hd
      cases hd
    refine ⟨⟨h, [[]], []⟩, ?_, (lot_nil g).symm⟩
    rw [ht]
    unfold row0
    rw [if_neg hne]
    exact List.mem_append_left _ List.mem_cons_self
  | n + 1, L, hl, hn, hd => by
    have hne : L ≠ [] := fun e => by rw [e] at hl; cases hl
    obtain ⟨M, a, rfl⟩ : ∃ M a, L = M ++ [a] := ⟨L.dropLast, L.getLast hne, (List.dropLast_concat_getLast hne).symm⟩
    have hM : does h M = false := by
      cases q : does h M with
      | false => rfl
      | true =>
        rw [does_mono q (List.sublist_append_left M [a])] at hd
        cases hd
    obtain ⟨e, he, hlot⟩ := reach g n M (by rw [List.length_append] at hl; simpa using hl) (fun x hx => hn x (List.mem_append_left _ hx)) hM
    obtain ⟨G, W, _⟩ := all_end g
    obtain ⟨i, hi⟩ := List.mem_iff_getElem?.mp he
    have ge := G.each e he
    have hhas := W i e (List.getElem?_eq_some_iff.mp hi).1 hi a (hn a (List.mem_append_right _ List.mem_cons_self))
    have hz : does (rowOf O short e a).st [] = false := by
      show does (stepM O e.st a) [] = false
      rw [does_step, ge.dz, lot_state g (L := e.log) (M := M) (by rw [← ge.lot, hlot]) [a]]
      exact hd
    rcases hhas with q | ⟨f, hf, _, q⟩
    · rw [q] at hz
      have : does [[]] ([] : List α) = true := (does_iff _ _).mpr ⟨[], List.mem_cons_self, List.Sublist.refl _⟩
      rw [this] at hz
      cases hz
    · refine ⟨f, hf, q.trans ?_⟩
      exact more_lot g hlot a
theorem undone_mem (g : Ground O h names short) {U : List α} (hU : U ∈ undone O short names h) : does h U = false ∧ ∀ x ∈ U, x ∈ names := by
  obtain ⟨e, he, rfl⟩ := List.mem_map.mp hU
  have ge := (all_end g).1.each e (List.mem_filter.mp he).1
  refine ⟨?_, ge.let_⟩
  have := ge.dz []
  rw [List.append_nil, base_some O ge.base ge.ne] at this
  exact this.symm
theorem wide_row (g : Ground O h names short) : ∀ (n : Nat) (e : Rw α), e ∈ allRows O short names h → short.length ≤ n + e.lot.length → ∃ f ∈ widest (allRows O short names h), ∀ l ∈ e.lot, l ∈ f.lot := by
  intro n
  induction n with
  | zero =>
    intro e he hn
    refine ⟨e, List.mem_filter.mpr ⟨he, ?_⟩, fun l h => h⟩
    rw [Bool.not_eq_true', List.any_eq_false]
    intro f hf q
    rw [Bool.and_eq_true, Bool.not_eq_true', decide_eq_false_iff_not, List.all_eq_true] at q
    obtain ⟨G, _, _⟩ := all_end g
    have ge := (G.each e he).lot
    have gf := (G.each f hf).lot
    refine q.1 ?_
    have hfull : e.lot = short := by
      have hs : e.lot.Sublist short := by rw [ge]; exact List.filter_sublist
      exact hs.eq_of_length (by have := hs.length_le; omega)
    have hsub : ∀ l ∈ short, l ∈ f.lot := fun l hl => of_decide_eq_true (q.2 l (by rw [hfull]; exact hl))
    rw [hfull, gf]
    refine (List.filter_eq_self.mpr fun l hl => ?_).symm
    have := hsub l hl
    rw [gf] at this
    exact (List.mem_filter.mp this).2
  | succ n ih =>
    intro e he hn
    by_cases hk : e ∈ widest (allRows O short names h)
    · exact ⟨e, hk, fun l h => h⟩
    · have : (allRows O short names h).any (fun f => !decide (e.lot = f.lot) && e.lot.all fun l => decide (l ∈ f.lot)) = true := by
        cases q : (allRows O short names h).any (fun f => !decide (e.lot = f.lot) && e.lot.all fun l => decide (l ∈ f.lot)) with
        | true => rfl
        | false => exact absurd (List.mem_filter.mpr ⟨he, by rw [q]; rfl⟩) hk
      obtain ⟨f, hf, q⟩ := List.any_eq_true.mp this
      rw [Bool.and_eq_true, Bool.not_eq_true', decide_eq_false_iff_not, List.all_eq_true] at q
      obtain ⟨G, _, _⟩ := all_end g
      have ge := (G.each e he).lot
      have gf := (G.each f hf).lot
      have hsub : ∀ l ∈ e.lot, l ∈ f.lot := fun l hl => of_decide_eq_true (q.2 l hl)
      have hx : ∃ x ∈ f.lot, x ∉ e.lot := by
        rcases Classical.em (∃ x ∈ f.lot, x ∉ e.lot) with z | z
        · exact z
        · exfalso
          refine q.1 ?_
          rw [ge, gf]
          refine List.filter_congr fun l hl => ?_
          rw [Bool.eq_iff_iff]
          constructor
          · intro h1
            have h2 := hsub l (by rw [ge]; exact List.mem_filter.mpr ⟨hl, h1⟩)
            rw [gf] at h2
            exact (List.mem_filter.mp h2).2
          · intro h1
            have h2 : l ∈ f.lot := by rw [gf]; exact List.mem_filter.mpr ⟨hl, h1⟩
            have h3 : l ∈ e.lot := Classical.byContradiction fun h3 => z ⟨l, h2, h3⟩
            rw [ge] at h3
            exact (List.mem_filter.mp h3).2
      obtain ⟨x, hx1, hx2⟩ := hx
      have hlen : e.lot.length < f.lot.length := by
        have hnd : (x :: e.lot).Nodup := List.nodup_cons.mpr ⟨hx2, by rw [ge]; exact g.nd.filter _⟩
        exact List.Nodup.length_le_of_subset hnd fun y hy => by
          rcases List.mem_cons.mp hy with rfl | hy
          · exact hx1
          · exact hsub y hy
      obtain ⟨f2, h1, h2⟩ := ih f hf (by omega)
      exact ⟨f2, h1, fun l hl => h2 l (hsub l hl)⟩
/-- every undone log is within a wide one, as far as the short logs tell -/
theorem undone_wide (g : Ground O h names short) {L : List α} (hn : ∀ x ∈ L, x ∈ names) (hd : does h L = false) : ∃ U ∈ undone O short names h, ∀ l ∈ short, l.Sublist L → l.Sublist U := by
  obtain ⟨e, he, hlot⟩ := reach g L.length L rfl hn hd
  obtain ⟨f, hf, hsub⟩ := wide_row g short.length e he (by omega)
  refine ⟨f.log, List.mem_map.mpr ⟨f, hf, rfl⟩, fun l hl s => ?_⟩
  have h1 : l ∈ e.lot := by rw [hlot]; exact List.mem_filter.mpr ⟨hl, (isPart_iff l L).mpr s⟩
  have h2 := hsub l h1
  rw [((all_end g).1.each f (List.mem_filter.mp hf).1).lot] at h2
  exact (isPart_iff l f.log).mp (List.mem_filter.mp h2).2
end
end MkM
/-! ## MkCover -/
set_option autoImplicit true
set_option autoImplicit false
set_option linter.all false
namespace MkM
/-! The least cover of some rows by logs. Plain. -/
section
variable {α : Type} [DecidableEq α]
def better (best : Option (List (List α))) (c : List (List α)) : Option (List (List α)) := match best with
  | none => some c
  | some b => if c.length < b.length then some c else some b
def cover (rows : List (List α)) : Nat → List (List α) → List (List α)
  | 0, _ => []
  | _ + 1, [] => []
  | n + 1, l :: left => ((rows.filter fun r => isPart l r).foldl (fun best r => better best (r :: cover rows n ((l :: left).filter fun x => !isPart x r))) none).getD []
theorem better_fold {β : Type} (f : β → List (List α)) : ∀ (rs : List β) (b : Option (List (List α))), (rs.foldl (fun best r => better best (f r)) b = none ↔ rs = [] ∧ b = none) ∧
    ∀ c, rs.foldl (fun best r => better best (f r)) b = some c → (b = some c ∨ ∃ r ∈ rs, c = f r) ∧ (∀ r ∈ rs, c.length ≤ (f r).length) ∧ ∀ d, b = some d → c.length ≤ d.length
  | [], b => ⟨by simp, fun c hc => ⟨.inl hc, fun _ z => (nomatch z), fun d hd => by
      have hc : b = some c := hc
      rw [hc] at hd
      cases hd
      exact Nat.le_refl _⟩⟩
  | r :: rs, b => by
    obtain ⟨h1, h2⟩ := better_fold f rs (better b (f r))
    refine ⟨?_, fun c hc => ?_⟩
    · show rs.foldl _ (better b (f r)) = none ↔ _
      rw [h1]
      constructor
      · rintro ⟨_, e⟩
        cases b with
        | none => cases e
        | some d =>
          unfold better at e
          simp only at e
          split at e <;> cases e
      · rintro ⟨e, _⟩
        cases e
    · obtain ⟨k1, k2, k3⟩ := h2 c hc
      have hb : ∀ d, better b (f r) = some d → (b = some d ∨ d = f r) ∧ d.length ≤ (f r).length ∧ ∀ d', b = some d' → d.length ≤ d'.length := by
        intro d hd
        cases b with
        | none =>
          have e : f r = d := Option.some.inj hd
          rw [← e]
          exact ⟨.inr rfl, Nat.le_refl _, fun _ z => (nomatch z)⟩
        | some d0 =>
          have hd : (if (f r).length < d0.length then some (f r) else some d0) = some d := hd
          by_cases q : (f r).length < d0.length
          · rw [if_pos q] at hd
            cases hd
            exact ⟨.inr rfl, Nat.le_refl _, fun d' hd' => by cases hd'; omega⟩
          · rw [if_neg q] at hd
            cases hd
            exact ⟨.inl rfl, by omega, fun d' hd' => by cases hd'; exact Nat.le_refl _⟩
      have hs : ∃ d, better b (f r) = some d := by
        cases b with
        | none => exact ⟨_, rfl⟩
        | some d0 =>
          by_cases q : (f r).length < d0.length
          · exact ⟨f r, by show (if (f r).length < d0.length then some (f r) else some d0) = _; rw [if_pos q]⟩
          · exact ⟨d0, by show (if (f r).length < d0.length then some (f r) else some d0) = _; rw [if_neg q]⟩
      obtain ⟨d, hd⟩ := hs
      obtain ⟨j1, j2, j3⟩ := hb d hd
      have hcd := k3 d hd
      refine ⟨?_, ?_, fun d' hd' => Nat.le_trans hcd (j3 d' hd')⟩
      · rcases k1 with k1 | ⟨r', hr', e⟩
        · rw [hd] at k1
          cases k1
          rcases j1 with j1 | j1
          · exact .inl j1
          · exact .inr ⟨r, List.mem_cons_self, j1⟩
        · exact .inr ⟨r', List.mem_cons_of_mem _ hr', e⟩
      · intro r' hr'
        rcases List.mem_cons.mp hr' with rfl | hr'
        · omega
        · exact k2 r' hr'
/-- C covers the rows -/
def Covers (left C : List (List α)) : Prop := ∀ l ∈ left, ∃ c ∈ C, isPart l c = true
theorem cover_ok (rows : List (List α)) : ∀ (n : Nat) (left : List (List α)), left.length ≤ n → Covers left rows →
    (∀ c ∈ cover rows n left, c ∈ rows) ∧ Covers left (cover rows n left) ∧ ∀ C : List (List α), (∀ c ∈ C, c ∈ rows) → Covers left C → (cover rows n left).length ≤ C.length
  | 0, left, hn, _ => by
    have e : left = [] := List.length_eq_zero_iff.mp (by omega)
    subst e
    exact ⟨(fun _ z => nomatch z), (fun _ z => nomatch z), fun C _ _ => Nat.zero_le _⟩
  | n + 1, [], _, _ => ⟨(fun _ z => nomatch z), (fun _ z => nomatch z), fun C _ _ => Nat.zero_le _⟩
  | n + 1, l :: left, hn, hc => by
    have hrest : ∀ r, isPart l r = true → ((l :: left).filter fun x => !isPart x r).length ≤ n ∧ Covers ((l :: left).filter fun x => !isPart x r) rows := by
      intro r hr
      refine ⟨?_, fun x hx => hc x (List.mem_filter.mp hx).1⟩
      rw [List.filter_cons, if_neg (by rw [hr]; exact Bool.false_ne_true)]
      have := List.length_filter_le (fun x => !isPart x r) left
      rw [List.length_cons] at hn
      omega
    have ih := fun r hr => cover_ok rows n _ (hrest r hr).1 (hrest r hr).2
    obtain ⟨h1, h2⟩ := better_fold (fun r => r :: cover rows n ((l :: left).filter fun x => !isPart x r)) (rows.filter fun r => isPart l r) none
    have hne : (rows.filter fun r => isPart l r) ≠ [] := by
      obtain ⟨r, hr, p⟩ := hc l List.mem_cons_self
      intro e
      have : r ∈ rows.filter fun r => isPart l r := List.mem_filter.mpr ⟨hr, p⟩
      rw [e] at this
      cases this
    cases q : (rows.filter fun r => isPart l r).foldl (fun best r => better best (r :: cover rows n ((l :: left).filter fun x => !isPart x r))) none with
    | none => exact absurd (h1.mp q).1 hne
    | some c =>
      have e : cover rows (n + 1) (l :: left) = c := by
        show ((rows.filter fun r => isPart l r).foldl (fun best r => better best (r :: cover rows n ((l :: left).filter fun x => !isPart x r))) none).getD [] = c
        rw [q]
        rfl
      rw [e]
      obtain ⟨k1, k2, _⟩ := h2 c q
      rcases k1 with k1 | ⟨r, hr, rfl⟩
      · cases k1
      obtain ⟨hr1, hr2⟩ := List.mem_filter.mp hr
      obtain ⟨i1, i2, _⟩ := ih r hr2
      refine ⟨fun x hx => ?_, fun x hx => ?_, fun C hC hcov => ?_⟩
      · rcases List.mem_cons.mp hx with rfl | hx
        · exact hr1
        · exact i1 x hx
      · by_cases p : isPart x r = true
        · exact ⟨r, List.mem_cons_self, p⟩
        · obtain ⟨c, hcm, hp⟩ := i2 x (List.mem_filter.mpr ⟨hx, by simpa using p⟩)
          exact ⟨c, List.mem_cons_of_mem _ hcm, hp⟩
      · obtain ⟨c, hcC, hp⟩ := hcov l List.mem_cons_self
        have hcr : c ∈ rows.filter fun r => isPart l r := List.mem_filter.mpr ⟨hC c hcC, hp⟩
        have m1 := k2 c hcr
        obtain ⟨_, _, i3⟩ := ih c hp
        have m2 := i3 (C.erase c) (fun x hx => hC x (List.mem_of_mem_erase hx)) fun x hx => by
          obtain ⟨hx1, hx2⟩ := List.mem_filter.mp hx
          obtain ⟨d, hd, hpd⟩ := hcov x hx1
          refine ⟨d, ?_, hpd⟩
          refine (List.mem_erase_of_ne ?_).mpr hd
          intro e
          rw [e] at hpd
          rw [hpd] at hx2
          cases hx2
        have m3 := List.length_erase_of_mem hcC
        have hpos : 0 < C.length := List.length_pos_of_mem hcC
        simp only [List.length_cons] at m1 ⊢
        omega
theorem cover_len (rows : List (List α)) : ∀ (n : Nat) (left : List (List α)), (cover rows n left).length ≤ n
  | 0, _ => Nat.le_refl _
  | _ + 1, [] => Nat.zero_le _
  | n + 1, l :: left => by
    obtain ⟨h1, h2⟩ := better_fold (fun r => r :: cover rows n ((l :: left).filter fun x => !isPart x r)) (rows.filter fun r => isPart l r) none
    show (((rows.filter fun r => isPart l r).foldl (fun best r => better best (r :: cover rows n ((l :: left).filter fun x => !isPart x r))) none).getD []).length ≤ _
    cases q : (rows.filter fun r => isPart l r).foldl (fun best r => better best (r :: cover rows n ((l :: left).filter fun x => !isPart x r))) none with
    | none => exact Nat.zero_le _
    | some c =>
      obtain ⟨k1, _, _⟩ := h2 c q
      rcases k1 with k1 | ⟨r, _, rfl⟩
      · cases k1
      · show (r :: cover rows n _).length ≤ _
        rw [List.length_cons]
        exact Nat.succ_le_succ (cover_len rows n _)
end
end MkM
/-! ## MkW8 -/
set_option autoImplicit true
set_option Elab.async false
set_option linter.all false
set_option maxRecDepth 100000
set_option maxHeartbeats 4000000
namespace Mk
open PySem PySem.Spec PyProof.Rows L2 MkM
section
variable {P : Program} {w : World} {K : PySem.W.Frag} {mg : Str → Option Value} {base : Heap}
/-! ### fewest_cover -/
-- slots: 0 left, 1 rows, 2 best, 3 log*, 4 more, 5 own
abbrev N_fewest_cover : List Str := ["left", "rows", "best", "log", "more", "own"]
theorem sc_fewest_cover : FnScope N_fewest_cover ["left", "rows"] (defScope st_fewest_cover) := ⟨rfl, rfl, rfl, by decide +kernel, rfl, by decide +kernel, by decide +kernel⟩
theorem bd_fewest_cover : BindOk "fewest_cover" "fewest_cover" st_fewest_cover ["left", "rows"] := fun _ _ _ _ _ _ us hl => match us, hl with | [_, _], _ => rfl
abbrev spCover (K : PySem.W.Frag) (n : Nat) : Sp := spP K (fun i : List Wd × List Wd => [bsD false i.1, bsD false i.2]) (fun i => i.1.length ≤ n ∧ i.2.length ≤ 100000 ∧ Covers i.1 i.2) (fun i => bsD true (cover i.2 n i.1))
theorem ok_cover0 (T : Txt K mg) : Callee P w K mg base 3 "fewest_cover" ["left", "rows"] (spCover K 0) := by
  have C_is_part : Callee P w K mg base 2 "is_part" ["word", "log"] (spIsPart K) := ok_is_part T
  have C_fewest_cover : Callee P w K mg base 0 "fewest_cover" ["left", "rows"] (fun _ _ _ _ => False) := by
    obtain ⟨fd, F⟩ := T.f_fewest_cover
    exact ⟨_, fd, ⟨fun _ _ _ _ h => h.elim, fun _ _ _ _ _ _ _ _ _ _ _ _ _ h => h.elim⟩, T.g_fewest_cover, F.kp, F.bindsN bd_fewest_cover⟩
  refine callee_of T.f_fewest_cover T.g_fewest_cover sc_fewest_cover bd_fewest_cover (spP_len fun _ => rfl) fun cdv A outer s H vs Q E hr h => ?_
  obtain ⟨⟨left, rows⟩, G, hs, ha, ⟨h1, h2, h3⟩, k⟩ := h
  have e : left = [] := List.length_eq_zero_iff.mp (Nat.le_zero.mp h1)
  subst e
  obtain ⟨v1, v2, rfl, d1, d2⟩ := dpa_two ha
  refine ⟨_, (pss_cons (ps_if (pt_cmpR (op_eq) (pe_callB (id := "len") (k_len (K := K) rfl) (by rfl) T.b_len (by decide +kernel) (pa_cons (pv 0) pa_nil)) pe_int (nomark _)) (pss_one (ps_ret (pe_tup pa_nil))) pss_nil)
        (pss_cons (ps_set (i := 2) sc_fewest_cover.nd rfl (by first | exact Or.inl rfl | exact Or.inr rfl) pe_non)
        (pss_cons (ps_for PassesOwn.never rfl (k_pi_sq (K := K) rfl (pv 1)) (pg_name (i := 3) sc_fewest_cover.nd rfl (by first | exact Or.inl rfl | exact Or.inr rfl)) (pss_one (ps_if (pt_val (pe_callC C_is_part hr (by omega) rfl (pa_cons (pe_ix (k_ixL (K := K) rfl) (pv 0) pe_int (fun _ _ => rfl)) (pa_cons (pv 3) pa_nil)))) (pss_cons (ps_set (i := 4) sc_fewest_cover.nd rfl (by first | exact Or.inl rfl | exact Or.inr rfl) (pe_callC C_fewest_cover hr (by omega) rfl (pa_cons (pe_lc (own := [("own", 5)]) rfl sc_fewest_cover.nd (k_pi_sq (K := K) rfl (pv 0)) (blkOk_by (by kernel_rfl)) (fun _ _ _ _ _ => (pg_name (i := 5) sc_fewest_cover.nd rfl (by first | exact Or.inl rfl | exact Or.inr rfl))) (fun _ _ _ _ _ => pts_one (pt_not (pt_val (pe_callC C_is_part hr (by omega) rfl (pa_cons (pv 5) (pa_cons (pv 3) pa_nil)))))) (fun _ _ _ _ _ => (pv 5))) (pa_cons (pv 1) pa_nil))))
        (pss_one (ps_set (i := 2) sc_fewest_cover.nd rfl (by first | exact Or.inl rfl | exact Or.inr rfl) (pe_ifExp (PW.pt (pw_or (pt_cmp (pc_isN (pv 2)) rfl) (pw_or1 (pt_cmpR op_lt (pe_op op_add (pe_callB (id := "len") (k_len (K := K) rfl) (by rfl) T.b_len (by decide +kernel) (pa_cons (pv 4) pa_nil)) pe_int) (pe_callB (id := "len") (k_len (K := K) rfl) (by rfl) T.b_len (by decide +kernel) (pa_cons (pv 2) pa_nil)) (nomark _))))) (pe_tup (pa_cons (pv 3) (k_star (K := K) rfl (pv 4) pa_nil))) (pv 2))))) pss_nil)))
        (pss_one (ps_ret (pv 2)))))), ?_⟩
  refine q_if (c := c0) (G := G) (φ := is true) (et_test ((ev_eqS (x := .int 0) (y := .int 0) (ev_lenL (ev_var rfl d1)) ev_int (fun G v h => dp_int h) (fun G v h => dp_int h) rfl).to rfl)) hs trivial fun b G1 H1 g1 _ e => ?_
  subst e
  exact st_ret (c := c0) (K := K) (G := G1) (φ := is (bsD true [])) (ev_tupX ex_nil (by simp)) g1.s trivial fun v d G2 H2 g2 _ dv e => by subst e; exact k v G2 H2 (g1.trans g2) dv
theorem ok_coverS (T : Txt K mg) (n lv : Nat) (hlv : 2 ≤ lv) (C : Callee P w K mg base lv "fewest_cover" ["left", "rows"] (spCover K n)) (hn : n < 1000) : Callee P w K mg base (lv + 1) "fewest_cover" ["left", "rows"] (spCover K (n + 1)) := by
  have C_is_part : Callee P w K mg base 2 "is_part" ["word", "log"] (spIsPart K) := ok_is_part T
  have C_fewest_cover := C
  refine callee_of T.f_fewest_cover T.g_fewest_cover sc_fewest_cover bd_fewest_cover (spP_len fun _ => rfl) fun cdv A outer s H vs Q E hr h => ?_
  obtain ⟨⟨left, rows⟩, G, hs, ha, ⟨h1, h2, h3⟩, k⟩ := h
  have h1 : left.length ≤ n + 1 := h1
  have h2 : rows.length ≤ 100000 := h2
  have h3 : Covers left rows := h3
  obtain ⟨v1, v2, rfl, d1, d2⟩ := dpa_two ha
  refine ⟨_, (pss_cons (ps_if (pt_cmpR (op_eq) (pe_callB (id := "len") (k_len (K := K) rfl) (by rfl) T.b_len (by decide +kernel) (pa_cons (pv 0) pa_nil)) pe_int (nomark _)) (pss_one (ps_ret (pe_tup pa_nil))) pss_nil)
        (pss_cons (ps_set (i := 2) sc_fewest_cover.nd rfl (by first | exact Or.inl rfl | exact Or.inr rfl) pe_non)
        (pss_cons (ps_for PassesOwn.never rfl (k_pi_sq (K := K) rfl (pv 1)) (pg_name (i := 3) sc_fewest_cover.nd rfl (by first | exact Or.inl rfl | exact Or.inr rfl)) (pss_one (ps_if (pt_val (pe_callC C_is_part hr (by omega) rfl (pa_cons (pe_ix (k_ixL (K := K) rfl) (pv 0) pe_int (fun _ _ => rfl)) (pa_cons (pv 3) pa_nil)))) (pss_cons (ps_set (i := 4) sc_fewest_cover.nd rfl (by first | exact Or.inl rfl | exact Or.inr rfl) (pe_callC C_fewest_cover hr (by omega) rfl (pa_cons (pe_lc (own := [("own", 5)]) rfl sc_fewest_cover.nd (k_pi_sq (K := K) rfl (pv 0)) (blkOk_by (by kernel_rfl)) (fun _ _ _ _ _ => (pg_name (i := 5) sc_fewest_cover.nd rfl (by first | exact Or.inl rfl | exact Or.inr rfl))) (fun _ _ _ _ _ => pts_one (pt_not (pt_val (pe_callC C_is_part hr (by omega) rfl (pa_cons (pv 5) (pa_cons (pv 3) pa_nil)))))) (fun _ _ _ _ _ => (pv 5))) (pa_cons (pv 1) pa_nil))))
        (pss_one (ps_set (i := 2) sc_fewest_cover.nd rfl (by first | exact Or.inl rfl | exact Or.inr rfl) (pe_ifExp (PW.pt (pw_or (pt_cmp (pc_isN (pv 2)) rfl) (pw_or1 (pt_cmpR op_lt (pe_op op_add (pe_callB (id := "len") (k_len (K := K) rfl) (by rfl) T.b_len (by decide +kernel) (pa_cons (pv 4) pa_nil)) pe_int) (pe_callB (id := "len") (k_len (K := K) rfl) (by rfl) T.b_len (by decide +kernel) (pa_cons (pv 2) pa_nil)) (nomark _))))) (pe_tup (pa_cons (pv 3) (k_star (K := K) rfl (pv 4) pa_nil))) (pv 2))))) pss_nil)))
        (pss_one (ps_ret (pv 2)))))), ?_⟩
  refine q_if (c := c0) (G := G) (φ := is (decide (left.length = 0))) (et_test ((ev_eqS (x := .int (left.length : Nat)) (y := .int 0) ((ev_lenL (ev_var rfl d1)).to (by rw [List.length_map])) ev_int (fun G v h => dp_int h) (fun G v h => dp_int h) rfl).to ?_)) hs trivial fun b G1 H1 g1 _ e => ?_
  · exact congrArg PyData.bool (decide_eq_decide.mpr ⟨fun e => by injection e with e; omega, fun e => by rw [e]; rfl⟩)
  have e : b = decide (left.length = 0) := e
  cases left with
  | nil =>
    rw [show decide (([] : List Wd).length = 0) = true from rfl] at e
    subst e
    exact st_ret (c := c0) (K := K) (G := G1) (φ := is (bsD true [])) (ev_tupX ex_nil (by simp)) g1.s trivial fun v d G2 H2 g2 _ dv e => by subst e; exact k v G2 H2 (g1.trans g2) dv
  | cons l left =>
    rw [decide_eq_false (by simp)] at e
    subst e
    let F := fun (best : Option (List Wd)) (r : Wd) => better best (r :: cover rows n ((l :: left).filter fun x => !isPart x r))
    refine q_asg (c := c0) (K := K) (G := G1) (φ := is .none) ev_non g1.s trivial fun v3 d3 G2 H2 g2 _ dv3 e => ?_
    subst e
    have g12 := g1.trans g2
    refine q_forI (c := c0) (G := G2) wd rows (es_L (ev_var rfl (dp_mono g12.g _ _ d2))) g2.s trivial
      (fun i σ' G' H' => Grow B0 G H G' H' ∧ ∃ vb y3 y4 y5, Dp K G' vb (optBs (((rows.take i).filter fun r => isPart l r).foldl F none)) ∧ σ' = [some v1, some v2, some vb, y3, y4, y5])
      (fun G3 H3 g _ => ⟨g12.trans g, v3, none, none, none, dp_mono g.g _ _ dv3, rfl⟩) (fun i σ' G' H' h => h.1.s) ?_ ?_
    · rintro G0 hG i r σ' G' H' hr s0 ⟨g, vb, y3, y4, y5, db, rfl⟩ v G3 H3 g3 dv
      refine ⟨_, tg_name, ?_⟩
      have gg := g.trans g3
      have d1' := dp_mono gg.g _ _ d1
      have db' := dp_mono g3.g _ _ db
      generalize hb : ((rows.take i).filter fun r => isPart l r).foldl F none = best at db'
      have hnext : ((rows.take (i + 1)).filter fun r => isPart l r).foldl F none = if isPart l r = true then F best r else best := by
        rw [take_succ' hr, List.filter_append, List.foldl_append, hb, List.filter_cons, List.filter_nil]
        by_cases e : isPart l r = true
        · rw [if_pos e, if_pos e]
          rfl
        · rw [if_neg e, if_neg e]
          rfl
      refine st_if (c := c0) (G := G3) (φ := is (isPart l r)) (et_B (ev_call (l, r) (ea_cons (ev_ixL (i := 0) (ev_var rfl d1') ev_int rfl) (ea_cons (ev_var rfl dv) ea_nil)) trivial)) g3.s trivial fun b G4 H4 g4 _ e => ?_
      have e : b = isPart l r := e
      subst e
      cases hp : isPart l r with
      | false =>
        refine ⟨G4, (s0.trans g3.g).trans g4.g, gg.trans g4, vb, some v, y4, y5, ?_, rfl⟩
        rw [hnext, hp, if_neg Bool.false_ne_true]
        exact dp_mono g4.g _ _ db'
      | true =>
        have hfl : ((l :: left).filter fun x => !isPart x r).length ≤ n := by
          rw [List.filter_cons, if_neg (by rw [hp]; exact Bool.false_ne_true)]
          have := List.length_filter_le (fun x => !isPart x r) left
          rw [List.length_cons] at h1
          omega
        have hln : (l :: left).length ≤ 100000 := by omega
        have hcl := cover_len rows n ((l :: left).filter fun x => !isPart x r)
        refine q_asg (c := c0) (K := K) (G := G4) (φ := is (bsD true (cover rows n ((l :: left).filter fun x => !isPart x r)))) (ev_call (((l :: left).filter fun x => !isPart x r), rows) (ea_cons (ev_pick wd (l :: left) (fun x => !isPart x r) wd (es_L (ev_var rfl (dp_mono g4.g _ _ d1'))) hln (fun _ => rfl) (fun x G5 v5 hx s5 dv5 => ?_) fun x G5 v5 hx s5 dv5 _ => ev_var rfl dv5) (ea_cons (ev_var rfl (dp_mono (gg.g.trans g4.g) _ _ d2)) ea_nil)) ⟨hfl, h2, fun x hx => h3 x (List.mem_filter.mp hx).1⟩) g4.s trivial fun v6 d6 G6 H6 g6 _ dv6 e => ?_
        · exact et_not (et_B (ev_call (x, r) (ea_cons (ev_var rfl dv5) (ea_cons (ev_var rfl (dp_mono (g4.g.trans s5) _ _ dv)) ea_nil)) trivial))
        · subst e
          generalize hmore : cover rows n ((l :: left).filter fun x => !isPart x r) = more at dv6 hcl
          have db6 := dp_mono (g4.g.trans g6.g) _ _ db'
          have etup : Ev c0 K (tTup (tCons (tVar 3) (StX.tStar K (tVar 4) tNil))) [some v1, some v2, some vb, some v, some v6, y5] G6 (is (optBs (some (r :: more)))) := by
            refine (ev_tupX (ex_cons (ev_var rfl (dp_mono (g4.g.trans g6.g) _ _ dv)) (ex_star (t := true) (ev_var rfl dv6) ex_nil)) ?_).to ?_
            · rw [List.length_cons, List.length_append, List.length_map, List.length_nil]
              omega
            · rw [List.append_nil]
              rfl
          refine st_asg (c := c0) (K := K) (G := G6) (φ := is (optBs (better best (r :: more)))) ?_ g6.s trivial fun v7 d7 G7 H7 g7 _ dv7 e => ?_
          · cases best with
            | none =>
              exact ev_if (b := true) ((et_or (a := true) (b := false) (et_B (ev_isN (ev_var rfl db6) true fun G v h => nonN h)) (fun e => nomatch e)).to rfl) (fun _ => etup) fun e => nomatch e
            | some b =>
              refine ev_if (b := decide (more.length + 1 < b.length)) ((et_or (a := false) (b := decide (more.length + 1 < b.length)) (et_B (ev_isN (ev_var rfl db6) false fun G v h => nonD (d := bsD true b) (fun z => nomatch z) h)) fun _ => et_test ((ev_I0 (ev_I0 (d := .int ((more.length + 1 : Nat) : Int)) (ev_lenT (ev_var rfl dv6)) ev_int (fun _ => by rw [List.length_map]; exact .int _)) (ev_lenT (ev_var rfl db6)) (fun _ => .bl _)).to ?_)).to rfl) (fun e => ?_) fun e => ?_
              · rw [List.length_map]
                exact congrArg PyData.bool (decide_eq_decide.mpr (by omega))
              · have e' : better (some b) (r :: more) = some (r :: more) := by
                  show (if (r :: more).length < b.length then some (r :: more) else some b) = _
                  rw [if_pos (by rw [List.length_cons]; exact of_decide_eq_true e)]
                rw [e']
                exact etup
              · have e' : better (some b) (r :: more) = some b := by
                  show (if (r :: more).length < b.length then some (r :: more) else some b) = _
                  rw [if_neg (by rw [List.length_cons]; exact of_decide_eq_false e)]
                rw [e']
                exact ev_var rfl db6
          · subst e
            refine ⟨G7, (((s0.trans g3.g).trans g4.g).trans g6.g).trans g7.g, ((gg.trans g4).trans g6).trans g7, v7, some v, some v6, y5, ?_, rfl⟩
            rw [hnext, hp, if_pos rfl]
            show Dp K G7 v7 (optBs (better best (r :: cover rows n ((l :: left).filter fun x => !isPart x r))))
            rw [hmore]
            exact dv7
    · rintro σ' G' H' sg ⟨g, vb, y3, y4, y5, db, rfl⟩
      rw [List.take_length] at db
      refine st_ret (c := c0) (K := K) (φ := is (optBs ((rows.filter fun r => isPart l r).foldl F none))) (ev_var rfl db) g.s trivial fun v d G1 H1 g1 _ dv e => ?_
      subst e
      refine k v G1 H1 (g.trans g1) ?_
      obtain ⟨q1, _⟩ := better_fold (fun r => r :: cover rows n ((l :: left).filter fun x => !isPart x r)) (rows.filter fun r => isPart l r) none
      show Dp K G1 v (bsD true (((rows.filter fun r => isPart l r).foldl F none).getD []))
      cases q : (rows.filter fun r => isPart l r).foldl F none with
      | none =>
        exfalso
        obtain ⟨r, hr, p⟩ := h3 l List.mem_cons_self
        have : r ∈ rows.filter fun r => isPart l r := List.mem_filter.mpr ⟨hr, p⟩
        rw [(q1.mp q).1] at this
        cases this
      | some b =>
        rw [q] at dv
        exact dv
theorem ok_cover (T : Txt K mg) : ∀ n : Nat, n ≤ 1000 → Callee P w K mg base (n + 3) "fewest_cover" ["left", "rows"] (spCover K n)
  | 0, _ => ok_cover0 T
  | n + 1, hn => ok_coverS T n (n + 3) (by omega) (ok_cover T n (by omega)) (by omega)
end
end Mk
/-! ## MkLayer8 -/
set_option autoImplicit true
set_option Elab.async false
set_option linter.all false
set_option maxRecDepth 100000
set_option maxHeartbeats 4000000
namespace Mk
open PySem PySem.Spec PyProof.Rows L2
/-- a context that also keeps an object -/
def cK (c : Ctx) (a : Addr) (o : HO) : Ctx where
  B := c.B
  P := fun b => c.P b ∨ b = a
  J := fun H => c.J H ∧ H a = some o
  bp := fun b h => .inl (c.bp b h)
  tr := fun H b j e => by
    rcases e with e | e
    · exact c.tr H b j.1 e
    · rw [e, j.2]
      exact fun z => nomatch z
  up := fun H H' j k => ⟨c.up H H' j.1 fun b o p q => k b o (.inl p) q, k a _ (.inr rfl) j.2⟩
section
variable {c : Ctx} {P : Program} {w : World} {K : PySem.W.Frag} {σ : St} {G G' G0 H0 G1 H1 H : Hp} {te ta tb tl tk tv : TE} {tt tu : TT} {φ ψ χ : PyData → Prop} {d e : PyData} {ds es : List PyData} {v : V} {B : Addr → Prop} {p : Addr} {o : HO} {tz : TS} {D : Ends}
/-! ### a list under way, read -/
theorem ev_ixM {i : Nat} {j : Nat} {f : Addr} {acc : List V} (hi : σ[i]? = some (some (.ref f))) (hJ : ∀ H, c.J H → H f = some (.lst acc)) (hd : DpAll K G acc ds) (hb : Ev c K tb σ G (is (.int (j : Int)))) (hx : ds[j]? = some d) : Ev c K (tOp (rIxL K) (tVar i) tb) σ G (is d) :=
  fun G0 H x y jj Q q => ⟨.ref f, hi, hb G0 H x y jj _ fun u e G1 H1 g1 j1 d1 p1 => by
    subst p1
    obtain ⟨v, hv, dv⟩ := dpa_get hd hx
    exact ⟨f, acc, (j : Int), v, rfl, dp_int d1, .inl (.inl (hJ H1 j1)), atI_nat hv, q v d G1 H1 g1 j1 (dp_mono (x.trans g1.g) _ _ dv) rfl⟩⟩
theorem ev_lenM {i : Nat} {f : Addr} {acc : List V} (hi : σ[i]? = some (some (.ref f))) (hJ : ∀ H, c.J H → H f = some (.lst acc)) (hd : DpAll K G acc ds) : Ev c K (tCB (fun xs H Q => ∃ p ys, xs = [.ref p] ∧ (SqL K H p ys ∨ SqT K H p ys) ∧ Q (.int ys.length) H) (tCons (tVar i) tNil)) σ G (is (.int ds.length)) :=
  fun G0 H x y j Q q => ⟨.ref f, hi, f, acc, rfl, .inl (.inl (.inl (hJ H j))), q _ _ G0 H (Grow.refl y) j (.int _) (by rw [dpa_len hd])⟩
/-! ### what is walked, known by the context -/
structure SrcW (I : Hp → Prop) (K : PySem.W.Frag) (J : It) (G : Hp) (ds : List PyData) : Prop where
  go : ∀ i H, Same G H → I H → i < ds.length → J.go i H
  stop : ∀ i H, Same G H → I H → ds.length ≤ i → J.stop i H
  yld : ∀ i H x H' G0 d, Same G G0 → Same G0 H → I H → ds[i]? = some d → J.yld i H x H' → ∃ G1, Grow B0 G0 H G1 H' ∧ Dp K G1 x d
def EvSW (c : Ctx) (K : PySem.W.Frag) (wi : TI) (σ : St) (G : Hp) (φ : List PyData → Prop) : Prop := ∀ G0 H, Same G G0 → Same G0 H → c.J H → ∀ R : It → Hp → Prop,
  (∀ J ds G1 H1, Grow c.B G0 H G1 H1 → c.J H1 → SrcW c.J K J G1 ds → φ ds → R J H1) → wi σ H R
theorem Src.toW {I : Hp → Prop} {J : It} (S : Src K J G ds) : SrcW I K J G ds := ⟨fun i H s _ hi => S.go i H s hi, fun i H s _ hi => S.stop i H s hi, fun i H x H' G0 d s t _ hd y => S.yld i H x H' G0 d s t hd y⟩
theorem EvS.toW {wi : TI} {Φ : List PyData → Prop} (h : EvS c K wi σ G Φ) : EvSW c K wi σ G Φ := fun G0 H a b j R r => h G0 H a b j R fun J ds G1 H1 g1 j1 S p => r J ds G1 H1 g1 j1 S.toW p
theorem es_M {i : Nat} {f : Addr} {acc : List V} (hi : σ[i]? = some (some (.ref f))) (hJ : ∀ H, c.J H → H f = some (.lst acc)) (hd : DpAll K G acc ds) : EvSW c K (iSq K (tVar i)) σ G (is ds) := fun G0 H a b j R r =>
  ⟨.ref f, hi, f, rfl, .inl ⟨⟨acc, .inl (.inl (hJ H j))⟩, r _ ds G0 H (Grow.refl b) j {
    go := fun k H' s j' hk => by
      obtain ⟨v, hv, _⟩ := dpa_get hd (List.getElem?_eq_getElem hk)
      exact ⟨acc, v, .inl (.inl (hJ H' j')), hv⟩
    stop := fun k H' s j' hk => ⟨acc, .inl (.inl (hJ H' j')), by rw [dpa_len hd]; exact hk⟩
    yld := fun k H' x H'' G1 d s t j' hk y => by
      obtain ⟨e, y⟩ := y
      subst e
      obtain ⟨v, hv, h5⟩ := dpa_get hd hk
      have e2 : x = v := Option.some.inj ((y acc (.inl (.inl (hJ _ j')))).symm.trans hv)
      subst e2
      exact ⟨G1, Grow.refl t, dp_mono (a.trans s) _ _ h5⟩ } rfl⟩⟩
/-! ### dicts of nested keys -/
inductive EntsOk (K : PySem.W.Frag) (G : Hp) {α : Type} (key : α → PySem.NestedKey) (val : α → PyData) : List Ent → List α → Prop
  | nil : EntsOk K G key val [] []
  | cons {x : Ent} {e : α} {xs : List Ent} {es : List α} : x.1 = key e → Dp K G (.ref x.2.1) (key e).data → Dp K G (.ref x.2.2) (val e) → EntsOk K G key val xs es → EntsOk K G key val (x :: xs) (e :: es)
section
variable {α : Type} {key : α → PySem.NestedKey} {val : α → PyData} {xs : List Ent} {rs : List α}
theorem EntsOk.mono (h : EntsOk K G key val xs rs) (s : Same G G') : EntsOk K G' key val xs rs := by
  induction h with
  | nil => exact .nil
  | cons h1 h2 h3 _ ih => exact .cons h1 (dp_mono s _ _ h2) (dp_mono s _ _ h3) ih
theorem EntsOk.keys (h : EntsOk K G key val xs rs) : xs.map (·.1) = rs.map key := by
  induction h with
  | nil => rfl
  | cons h1 _ _ _ ih => rw [List.map_cons, List.map_cons, ih, h1]
theorem EntsOk.len (h : EntsOk K G key val xs rs) : xs.length = rs.length := by
  have := congrArg List.length h.keys
  rwa [List.length_map, List.length_map] at this
theorem EntsOk.ok (h : EntsOk K G key val xs rs) (hz : ∀ e, (key e).depth ≤ 8) : KeysOk K G xs := by
  induction h with
  | nil => exact fun _ z => nomatch z
  | @cons x e xs rs h1 h2 _ _ ih =>
    intro y hy
    rcases List.mem_cons.mp hy with rfl | hy
    · rw [h1]
      exact ⟨h2, hz e⟩
    · exact ih y hy
theorem EntsOk.mem (h : EntsOk K G key val xs rs) {e : α} (he : e ∈ rs) : ∃ a b, (key e, a, b) ∈ xs ∧ Dp K G (.ref b) (val e) := by
  induction h with
  | nil => cases he
  | @cons x f xs rs h1 h2 h3 _ ih =>
    rcases List.mem_cons.mp he with rfl | he
    · obtain ⟨k, a, b⟩ := x
      have h1 : k = key e := h1
      subst h1
      exact ⟨a, b, List.mem_cons_self, h3⟩
    · obtain ⟨a, b, hm, hd⟩ := ih he
      exact ⟨a, b, List.mem_cons_of_mem _ hm, hd⟩
theorem EntsOk.get (h : EntsOk K G key val xs rs) {i : Nat} {x : Ent} (hx : xs[i]? = some x) : ∃ e, rs[i]? = some e ∧ Dp K G (.ref x.2.1) (key e).data := by
  induction h generalizing i with
  | nil => simp at hx
  | @cons y f xs rs h1 h2 h3 _ ih =>
    cases i with
    | zero =>
      have e : y = x := Option.some.inj (by simpa using hx)
      subst e
      exact ⟨f, rfl, h2⟩
    | succ i => exact ih (by simpa using hx)
theorem EntsOk.snoc (h : EntsOk K G key val xs rs) {e : α} {a b : Addr} (ha : Dp K G (.ref a) (key e).data) (hb : Dp K G (.ref b) (val e)) : EntsOk K G key val (xs ++ [(key e, a, b)]) (rs ++ [e]) := by
  induction h with
  | nil => exact .cons rfl ha hb .nil
  | cons h1 h2 h3 _ ih => exact .cons h1 h2 h3 ih
/-- a dict under way -/
structure KDict (K : PySem.W.Frag) (P : Program) (w : World) (d : Addr) (key : α → PySem.NestedKey) (val : α → PyData) (rs : List α) (G H : Hp) : Prop where
  ex : G d = none ∧ ∃ xs ep, H d = some (DO P w d xs ep) ∧ EntsOk K G key val xs rs
theorem KDict.grow {d : Addr} (m : KDict K P w d key val rs G H) (nb : ¬ B d) (x : Grow B G H G1 H1) : KDict K P w d key val rs G1 H1 := by
  obtain ⟨h0, xs, ep, h1, h2⟩ := m.ex
  exact ⟨x.none1 (by rw [h1]; exact fun z => nomatch z) h0, xs, ep, x.h _ _ nb h1, h2.mono x.g⟩
theorem KDict.grow0 {d : Addr} (m : KDict K P w d key val rs G H) (x : Grow B0 G H G1 H1) : KDict K P w d key val rs G1 H1 := m.grow (fun z => z) x
/-- d[k] -/
theorem ev_dget {i : Nat} {dd : Addr} {ep : Nat} {e : α} (hi : σ[i]? = some (some (.ref dd))) (hH : ∀ G0 H, Same G G0 → Same G0 H → c.J H → H dd = some (DO P w dd xs ep)) (hx : EntsOk K G key val xs rs) (hz : ∀ e, (key e).depth ≤ 8) (hk : ∃ ks, (key e).data = .tuple ks) (hb : Ev c K tb σ G (is (key e).data)) (he : e ∈ rs) :
    Ev c K (tDGetN K P w (tVar i) tb) σ G (is (val e)) := fun G0 H x y j Q q => ⟨.ref dd, hi, hb G0 H x y j _ fun u f G1 H1 g1 j1 d1 p1 => by
  subst p1
  obtain ⟨ks, hks⟩ := hk
  rw [hks] at d1
  obtain ⟨a, ys, rfl, h3, h4⟩ := dp_tup d1
  rw [← hks] at d1
  have hx1 := hx.mono (x.trans g1.g)
  obtain ⟨a', b, hm, hv⟩ := hx1.mem he
  exact ⟨dd, xs, ep, key e, a, a', b, rfl, rfl, hH G1 H1 (x.trans g1.g) g1.s j1, (hx1.ok hz).mono g1.s, dp_mono g1.s _ _ d1, hz e, hm, q _ _ G1 H1 g1 j1 hv rfl⟩⟩
/-- k not in d -/
theorem ev_niN {i : Nat} {dd : Addr} {ep : Nat} {k : PySem.NestedKey} (hi : σ[i]? = some (some (.ref dd))) (hH : ∀ G0 H, Same G G0 → Same G0 H → c.J H → H dd = some (DO P w dd xs ep)) (hx : EntsOk K G key val xs rs) (hz : ∀ e, (key e).depth ≤ 8) (hkz : k.depth ≤ 8) (hk : ∃ ks, k.data = .tuple ks) (hb : Ev c K tb σ G (is k.data)) :
    Ev c K (tOp (rNiN K P w) tb (tVar i)) σ G (is (.bool (!decide (k ∈ rs.map key)))) := fun G0 H x y j Q q => hb G0 H x y j _ fun u f G1 H1 g1 j1 d1 p1 => by
  subst p1
  obtain ⟨ks, hks⟩ := hk
  rw [hks] at d1
  obtain ⟨a, ys, rfl, h3, h4⟩ := dp_tup d1
  rw [← hks] at d1
  have hx1 := hx.mono (x.trans g1.g)
  refine ⟨.ref dd, hi, dd, xs, ep, k, a, rfl, rfl, hH G1 H1 (x.trans g1.g) g1.s j1, (hx1.ok hz).mono g1.s, dp_mono g1.s _ _ d1, hkz, ?_⟩
  rw [hx1.keys]
  exact q _ _ G1 H1 g1 j1 (.bl _) rfl
/-- d[k] = v, k new, and what follows -/
theorem q_dput {i i2 : Nat} {dd : Addr} {ep : Nat} {e : α} {vk : V} (hi : σ[i]? = some (some (.ref dd))) (hi2 : σ[i2]? = some (some vk)) (hgn : G dd = none) (hx0 : H dd = some (DO P w dd xs ep)) (hent : EntsOk K G key val xs rs) (hz : ∀ e, (key e).depth ≤ 8) (hk : ∃ ks, (key e).data = .tuple ks) (hv : ∃ ks, val e = .tuple ks)
    (dk : Dp K G vk (key e).data) (h : Ev (cK c dd (DO P w dd xs ep)) K te σ G (is (val e))) (s : Same G H) (j : c.J H) (nP : ¬ c.P dd) (hnew : key e ∉ rs.map key) (hlen : rs.length < 100000)
    (k : ∀ G1 H1, (∀ G0 H0, Grow c.B G0 H0 G H → H0 dd = none → Grow c.B G0 H0 G1 H1) → (∀ f' es, f' ≠ dd → ¬ c.B f' → ML K f' G H es → ML K f' G1 H1 es) → c.J H1 → KDict K P w dd key val (rs ++ [e]) G1 H1 → Same G G1 → Same G1 H1 → tz D σ H1) :
    tSeq (tAsg te (gSub (tVar i) (tVar i2) (rPutN K P w))) tz D σ H := h G H (Same.refl G) s ⟨j, hx0⟩ _ fun v d G1 H1 g1 j1 d1 p1 => by
  subst p1
  have g1 : Grow c.B G H G1 H1 := g1
  have n1 : G1 dd = none := g1.none1 (by rw [hx0]; exact fun z => nomatch z) hgn
  have hx := hent.mono g1.g
  obtain ⟨ks, hks⟩ := hk
  have dk1 := dp_mono g1.g _ _ dk
  rw [hks] at dk1
  obtain ⟨a, ys, rfl, _, _⟩ := dp_tup dk1
  rw [← hks] at dk1
  obtain ⟨ls, hls⟩ := hv
  have d1' := d1
  rw [hls] at d1'
  obtain ⟨b, zs, rfl, _, _⟩ := dp_tup d1'
  refine ⟨.ref dd, hi, .ref a, hi2, dd, xs, ep, key e, a, b, rfl, rfl, rfl, j1.2, (hx.ok hz).mono g1.s, dp_mono g1.s _ _ dk1, hz e, by rw [hx.keys]; exact hnew, by rw [hx.len]; exact hlen, fun ep' => ?_⟩
  refine k G1 _ (fun G0 H0 x hn => (x.trans g1).mut (.inl hn) n1) (fun f' es' ne nb' m' => ?_) (c.mut j1.1 nP) ⟨n1, _, ep', upd_same, hx.snoc dk1 d1⟩ g1.g fun a u q => ?_
  · obtain ⟨m0, ac, m1, m2⟩ := (m'.grow nb' g1).ex
    exact ⟨m0, ac, by rw [upd_ne ne]; exact m1, m2⟩
  · rw [upd_ne (ne_of_none q n1)]
    exact g1.s a u q
/-- xs.append(e), with what else stands -/
theorem st_append2 {i : Nat} {f : Addr} (hv : σ[i]? = some (some (.ref f))) (m : ML K f G H ds) (h : Ev c K te σ G φ) (s : Same G H) (j : c.J H) (nP : ¬ c.P f) (hl : ds.length < 100000)
    (k : ∀ d G1 H1, (∀ G0 H0, Grow c.B G0 H0 G H → H0 f = none → Grow c.B G0 H0 G1 H1) → (∀ a o, a ≠ f → ¬ c.B a → H a = some o → H1 a = some o ∧ (G a = none → G1 a = none)) → c.J H1 → φ d → ML K f G1 H1 (ds ++ [d]) → Same G G1 → Same G1 H1 → D.nx σ H1) : tDrop (tBM K "list" rAppend (tVar i) (tCons te tNil)) D σ H := by
  obtain ⟨h0, acc, h1, h2⟩ := m.ex
  have nB : ¬ c.B f := fun z => nP (c.bp f z)
  refine ⟨.ref f, hv, .inl ⟨rfl, acc, .inl (.inl h1)⟩, h G H (Same.refl G) s j _ fun v d G1 H1 g1 j1 d1 p1 => ?_⟩
  have f1 : H1 f = some (.lst acc) := g1.h _ _ nB h1
  have n1 : G1 f = none := g1.none1 (by rw [h1]; exact fun z => nomatch z) h0
  have s1 : Same G1 (upd H1 f (.lst (acc ++ [v]))) := fun a u q => by
    rw [upd_ne (ne_of_none q n1)]
    exact g1.s a u q
  refine ⟨f, acc, v, rfl, rfl, f1, by rw [dpa_len h2]; exact Nat.lt_of_lt_of_le hl (by decide), k d G1 _ (fun G0 H0 x hn => (x.trans g1).mut (.inl hn) n1) (fun a o ne nb ho => ⟨by rw [upd_ne ne]; exact g1.h _ _ nb ho, fun q => g1.none1 (by rw [ho]; exact fun z => nomatch z) q⟩) (c.mut j1 nP) p1 ⟨n1, _, upd_same, dpa_app (dpa_mono g1.g _ _ h2) (.cons d1 .nil)⟩ g1.g s1⟩
/-- the keys of a known dict, walked -/
theorem es_keys {i : Nat} {dd : Addr} {ep : Nat} (hi : σ[i]? = some (some (.ref dd))) (hg : G dd = some (DO P w dd xs ep)) (hx : EntsOk K G key val xs rs) : EvS c K (iKeysN P w (tVar i)) σ G (is (rs.map fun e => (key e).data)) := fun G0 H a b j R r =>
  ⟨.ref dd, hi, dd, xs, ep, rfl, b _ _ (a _ _ hg), r _ _ G0 H (Grow.refl b) j {
    go := fun k H' s hk => ⟨s _ _ (a _ _ hg), by rw [hx.len]; rwa [List.length_map] at hk⟩
    stop := fun k H' s hk => ⟨s _ _ (a _ _ hg), by rw [hx.len]; rwa [List.length_map] at hk⟩
    yld := fun k H' x H'' G1 d s t hk y => by
      obtain ⟨e, en, hen, rfl⟩ := y
      subst e
      obtain ⟨e, he, hd⟩ := (hx.mono (a.trans s)).get hen
      rw [List.getElem?_map, he] at hk
      have e2 : (key e).data = d := Option.some.inj hk
      subst e2
      exact ⟨G1, Grow.refl t, hd⟩ } rfl⟩
/-- a dict's comprehension: a new dict, not yet known -/
def EvDN (c : Ctx) (K : PySem.W.Frag) (P : Program) (w : World) (te : TE) (σ : St) (G : Hp) (key : α → PySem.NestedKey) (val : α → PyData) (rs : List α) : Prop := ∀ G0 H, Same G G0 → Same G0 H → c.J H → ∀ Q : VK,
  (∀ D G1 H1, H D = none → Grow c.B G0 H G1 H1 → c.J H1 → KDict K P w D key val rs G1 H1 → Q (.ref D) H1) → te σ H Q
theorem evDN_dc {wi : TI} {g : TG} {vs : List Nat} (enc : α → PyData) (hs : EvSW c K wi σ G (is (rs.map enc))) (hl : rs.length < 100000) (hn : (rs.map key).Nodup) (hz : ∀ e, (key e).depth ≤ 8) (hk : ∀ e, ∃ ks, (key e).data = .tuple ks) (hv : ∀ e, ∃ ks, val e = .tuple ks)
    (ht : ∀ x G1 v, x ∈ rs → Same G G1 → Dp K G1 v (enc x) → ∃ σ2, TgOk g (wipe σ vs) G1 v σ2 ∧ wipe σ2 vs = wipe σ vs ∧ Ev c K tk σ2 G1 (is (key x).data) ∧ Ev c K tv σ2 G1 (is (val x))) :
    EvDN c K P w (tDcN K P w wi g tYes tk tv vs) σ G key val rs := fun G0 H a b j Q q => hs G0 H a b j _ fun J ds0 G1 H1 gg1 j1 S e0 => by
  subst e0
  intro D hD
  have hnP : ¬ c.P D := c.notP j1 hD
  have hnB : ¬ c.B D := fun z => hnP (c.bp D z)
  have hHD : H D = none := by
    cases e : H D with
    | none => rfl
    | some u => exact absurd hD (gg1.t D (by rw [e]; exact fun z => nomatch z))
  have hlen : (rs.map enc).length = rs.length := List.length_map ..
  refine ⟨fun i m H2 => m = rs.length - i ∧ i ≤ rs.length ∧ ∃ G2, Grow c.B G1 H1 G2 H2 ∧ c.J H2 ∧ KDict K P w D key val (rs.take i) G2 H2,
    ⟨rs.length, by simp, Nat.zero_le _, G1, (Grow.refl gg1.s).mut (.inl hD) (gg1.s.free hD), c.new j1 hD, ⟨gg1.s.free hD, [], 0, upd_same, .nil⟩⟩, ?_⟩
  rintro i m H2 ⟨rfl, hi, G2, gr, j2, kd⟩
  by_cases hlt : i < rs.length
  · have hx : rs[i]? = some rs[i] := List.getElem?_eq_getElem hlt
    generalize rs[i] = x at hx
    have hdx : (rs.map enc)[i]? = some (enc x) := by rw [List.getElem?_map, hx]; rfl
    refine .inr ⟨S.go i H2 (gr.g.trans gr.s) j2 (by rw [hlen]; exact hlt), fun H3 => ∃ G3, Grow c.B G1 H1 G3 H3 ∧ c.J H3 ∧ KDict K P w D key val (rs.take (i + 1)) G3 H3,
      fun H3 ⟨G3, x1⟩ => ⟨rs.length - (i + 1), by omega, rfl, hlt, G3, x1⟩, fun y H3 hy => ?_⟩
    obtain ⟨G3, gy, dy⟩ := S.yld i H2 y H3 G2 (enc x) gr.g gr.s j2 hdx hy
    have gr3 : Grow c.B G1 H1 G3 H3 := gr.trans gy.wide
    obtain ⟨σ2, t1, t2, t3, t4⟩ := ht x G3 y (List.mem_of_getElem? hx) ((a.trans gg1.g).trans gr3.g) dy
    refine t1 H3 _ gy.s ⟨t2, ?_⟩
    show tk σ2 H3 _
    refine t3 G3 H3 (Same.refl _) gy.s (c.same j2 gy.same) _ fun u f G4 H4 g4 j4 d4 p4 => ?_
    subst p4
    refine t4 G4 H4 g4.g g4.s j4 _ fun u2 f2 G5 H5 g5 j5 d5 p5 => ?_
    subst p5
    have gr5 := (gr3.trans g4).trans g5
    obtain ⟨n5, xs, ep, h5, hx5⟩ := (((kd.grow0 gy).grow hnB g4).grow hnB g5).ex
    have d4' := dp_mono g5.g _ _ d4
    obtain ⟨ks, hks⟩ := hk x
    rw [hks] at d4'
    obtain ⟨ka, _, rfl, _, _⟩ := dp_tup d4'
    rw [← hks] at d4'
    obtain ⟨ls, hls⟩ := hv x
    have d5' := d5
    rw [hls] at d5'
    obtain ⟨vb, _, rfl, _, _⟩ := dp_tup d5'
    refine ⟨xs, ep, key x, ka, vb, rfl, rfl, h5, (hx5.ok hz).mono g5.s, dp_mono g5.s _ _ d4', hz x, ?_, ?_, fun ep' => ⟨G5, gr5.mut (.inl hD) n5, c.mut j5 hnP, n5, _, ep', upd_same, ?_⟩⟩
    · rw [hx5.keys]
      intro hm
      have hn' := hn
      rw [← List.take_append_drop i rs, List.drop_eq_getElem_cons hlt, List.map_append, List.nodup_append] at hn'
      refine hn'.2.2 _ hm (key x) ?_ rfl
      rw [List.getElem?_eq_getElem hlt] at hx
      rw [Option.some.inj hx, List.map_cons]
      exact List.mem_cons_self
    · rw [hx5.len, List.length_take]
      omega
    · rw [take_succ' hx]
      exact hx5.snoc d4' d5
  · have e : i = rs.length := by omega
    subst e
    rw [List.take_length] at kd
    exact .inl ⟨S.stop _ H2 (gr.g.trans gr.s) j2 (by rw [hlen]; exact Nat.le_refl _), q D G2 H2 hHD (gg1.trans gr) j2 kd⟩
end
/-- x if c else y, a new list -/
theorem evL_if {b : Bool} (h : EvT c tt σ G (is b)) (h1 : b = true → EvL c K ta σ G ds) (h2 : b = false → EvL c K tb σ G ds) : EvL c K (tIf tt ta tb) σ G ds := fun G0 H x y j Q q => h G0 H x y j _ fun v G1 H1 g1 j1 p1 => by
  subst p1
  have hb : ∀ p, H1 p = none → H p = none := fun p hp => by
    cases e : H p with
    | none => rfl
    | some u => exact absurd hp (g1.t p (by rw [e]; exact fun z => nomatch z))
  cases v with
  | true =>
    show ta σ H1 Q
    exact h1 rfl G1 H1 (x.trans g1.g) g1.s j1 Q fun p G2 H2 hn g2 j2 m => q p G2 H2 (hb p hn) (g1.trans g2) j2 m
  | false =>
    show tb σ H1 Q
    exact h2 rfl G1 H1 (x.trans g1.g) g1.s j1 Q fun p G2 H2 hn g2 j2 m => q p G2 H2 (hb p hn) (g1.trans g2) j2 m
/-- x = a new list, and what follows -/
theorem q_asgM {i : Nat} (h : EvL c K te σ G ds) (s : Same G H) (j : c.J H) (k : ∀ p G1 H1, H p = none → Grow c.B G H G1 H1 → c.J H1 → ML K p G1 H1 ds → tz D (σ.set i (some (.ref p))) H1) : tSeq (tAsg te (gName i)) tz D σ H := h G H (Same.refl G) s j _ k
section
variable {α : Type} {key : α → PySem.NestedKey} {val : α → PyData} {rs : List α}
/-- x, y = {..}, n and what follows -/
theorem q_dcpar {i i2 : Nat} {n : Int} (h : EvDN c K P w te σ G key val rs) (s : Same G H) (j : c.J H) (nb : ∀ d, H d = none → ¬ c.B d) (k : ∀ d G1 H1, H d = none → Grow c.B G H G1 H1 → c.J H1 → KDict K P w d key val rs G1 H1 → tz D ((σ.set i (some (.ref d))).set i2 (some (.int n))) H1) :
    tSeq (tAsg (tTup (tCons te (tCons (tC (.int n)) tNil))) (gTup K 2 (gCons (gName i) (gCons (gName i2) gNil)))) tz D σ H := h G H (Same.refl G) s j _ fun d G1 H1 hd g1 j1 m => by
  refine ⟨by show 2 ≤ sizeLine; decide, fun p hp => ⟨p, _, rfl, .inl (.inl upd_same), rfl, .ref d, _, rfl, .int n, _, rfl, rfl, ?_⟩⟩
  have g2 : Grow B0 G1 H1 G1 (upd H1 p (.tup [.ref d, .int n])) := (Grow.refl g1.s).mut (.inl hp) (g1.s.free hp)
  exact k d G1 _ hd (g1.trans g2.wide) (c.same j1 g2.same) (m.grow0 g2)
theorem q_dcN {i : Nat} (h : EvDN c K P w te σ G key val rs) (s : Same G H) (j : c.J H) (k : ∀ d G1 H1, H d = none → Grow c.B G H G1 H1 → c.J H1 → KDict K P w d key val rs G1 H1 → tz D (σ.set i (some (.ref d))) H1) : tSeq (tAsg te (gName i)) tz D σ H := h G H (Same.refl G) s j _ k
end
end
end Mk
/-! ## MkW9 -/
set_option autoImplicit true
set_option Elab.async false
set_option linter.all false
set_option maxRecDepth 100000
set_option maxHeartbeats 4000000
namespace Mk
open PySem PySem.Spec PyProof.Rows L2 MkM
abbrev RW := Rw Str
def rowD (e : RW) : PyData := .tuple [bsD true e.st, bsD true e.lot]
def bsK (b : List Wd) : PySem.NestedKey := .tup (b.map fun l => .tup (l.map .text))
def rowK (e : RW) : PySem.NestedKey := .tup [bsK e.st, bsK e.lot]
theorem wdK_data (l : Wd) : (PySem.NestedKey.tup (l.map .text)).data = wd l := by
  simp only [PySem.NestedKey.data, data_texts]
  rfl
theorem bsK_datas : ∀ b : List Wd, PySem.NestedKey.datas (b.map fun l => .tup (l.map .text)) = b.map wd
  | [] => rfl
  | l :: b => by
    rw [List.map_cons, PySem.NestedKey.datas, wdK_data, bsK_datas b]
    rfl
theorem bsK_data (b : List Wd) : (bsK b).data = bsD true b := by
  unfold bsK
  rw [PySem.NestedKey.data, bsK_datas]
  rfl
theorem rowK_data (e : RW) : (rowK e).data = rowD e := by
  unfold rowK
  rw [PySem.NestedKey.data, PySem.NestedKey.datas, PySem.NestedKey.datas, PySem.NestedKey.datas, bsK_data, bsK_data]
  rfl
theorem bsK_depth (b : List Wd) : (bsK b).depth ≤ 2 := by
  have e : ∀ b : List Wd, PySem.NestedKey.depthAll (b.map fun l => .tup (l.map .text)) ≤ 1 := by
    intro b
    induction b with
    | nil => simp [PySem.NestedKey.depthAll]
    | cons l b ih =>
      rw [List.map_cons, PySem.NestedKey.depthAll, PySem.NestedKey.depth, depth_texts]
      omega
  unfold bsK
  rw [PySem.NestedKey.depth]
  have := e b
  omega
theorem rowK_depth (e : RW) : (rowK e).depth ≤ 8 := by
  unfold rowK
  rw [PySem.NestedKey.depth, PySem.NestedKey.depthAll, PySem.NestedKey.depthAll, PySem.NestedKey.depthAll]
  have := bsK_depth e.st
  have := bsK_depth e.lot
  omega
theorem bsK_inj {b c : List Wd} (h : bsK b = bsK c) : b = c := by
  have h2 := congrArg PySem.NestedKey.data h
  rw [bsK_data, bsK_data] at h2
  have := ((enc_bs true).eq b c).mp (by rw [h2]; exact ((enc_bs true).eq c c).mpr rfl)
  exact this
theorem rowK_eq (e f : RW) : rowK e = rowK f ↔ e.st = f.st ∧ e.lot = f.lot := by
  constructor
  · intro h
    unfold rowK at h
    injection h with h
    simp only [List.cons.injEq, and_true] at h
    exact ⟨bsK_inj h.1, bsK_inj h.2⟩
  · rintro ⟨h1, h2⟩
    unfold rowK
    rw [h1, h2]
theorem rowK_mem (es : List RW) (r : RW) : rowK r ∈ es.map rowK ↔ ∃ e ∈ es, e.st = r.st ∧ e.lot = r.lot := by
  rw [List.mem_map]
  exact exists_congr fun e => and_congr_right fun _ => rowK_eq e r
theorem fresh_eq (es : List RW) (r : RW) : fresh es r = (!decide (r.st = [[]]) && !decide (rowK r ∈ es.map rowK)) := by
  rw [Bool.eq_iff_iff, fresh_iff, Bool.and_eq_true, Bool.not_eq_true', Bool.not_eq_true', decide_eq_false_iff_not, decide_eq_false_iff_not, rowK_mem]
  refine and_congr_right fun _ => ?_
  constructor
  · rintro h ⟨e, he, q⟩
    exact h e he q
  · exact fun h e he q => h ⟨e, he, q⟩
theorem dp_always {K : PySem.W.Frag} {mg : Str → Option Value} (T : Txt K mg) (G : Hp) : Dp K G (.ref (He.ga K "ALWAYS")) (bsD true [[]]) := .tup (T.alw G).1 (.cons (.tup (T.alw G).2 .nil) .nil)
section
variable {P : Program} {w : World} {K : PySem.W.Frag} {mg : Str → Option Value} {base : Heap}
/-! ### undone_logs -/
-- slots: 0 base, 1 names, 2 short, 3 rows, 4 known*, 5 place, 6 state, 7 lot*, 8 name*, 9 more, 10 later, 11 lots*, 12 row, 13 log, 14 far
abbrev N_undone_logs : List Str := ["base", "names", "short", "rows", "known", "place", "state", "lot", "name", "more", "later", "lots", "row", "log", "far"]
theorem sc_undone_logs : FnScope N_undone_logs ["base", "names", "short"] (defScope st_undone_logs) := ⟨rfl, rfl, rfl, by decide +kernel, rfl, by decide +kernel, by decide +kernel⟩
theorem bd_undone_logs : BindOk "undone_logs" "undone_logs" st_undone_logs ["base", "names", "short"] := fun _ _ _ _ _ _ us hl => match us, hl with | [_, _, _], _ => rfl
abbrev spUndone (K : PySem.W.Frag) : Sp := spP K (fun i : List Wd × List Str × List Wd => [bsD true i.1, wd i.2.1, bsD false i.2.2]) (fun i => Ground OStr i.1 i.2.1 i.2.2 ∧ ∀ l ∈ i.2.2, Lw l) (fun i => bsD false (undone OStr i.2.2 i.2.1 i.1))
theorem ok_undone_logs (T : Txt K mg) : Callee P w K mg base 6 "undone_logs" ["base", "names", "short"] (spUndone K) := by
  have C_tupled : Callee P w K mg base 3 "tupled" ["value"] (spTupB K) := ok_tupB T
  have C_step : Callee P w K mg base 5 "step" ["state", "name"] (spStep K) := ok_step T
  refine callee_of T.f_undone_logs T.g_undone_logs sc_undone_logs bd_undone_logs (spP_len fun _ => rfl) fun cdv A outer s H vs Q E hr h => ?_
  obtain ⟨⟨h, names, short⟩, G, hs, ha, ⟨g, hlw⟩, k⟩ := h
  have g : Ground OStr h names short := g
  have hlw : ∀ l ∈ short, Lw l := hlw
  have hfew := g.few
  have hle : h.length ≤ short.length := List.Nodup.length_le_of_subset (base_nodup OStr g.base) g.sub
  have hLB : LB h := ⟨by omega, fun l hl => hlw l (g.sub l hl)⟩
  obtain ⟨v1, v2, v3, rfl, d1, d2, d3⟩ := dpa_three ha
  refine ⟨_, (pss_cons (ps_set (i := 3) sc_undone_logs.nd rfl (by first | exact Or.inl rfl | exact Or.inr rfl) (pe_ifExp (pt_cmpR (k_neP (K := K) rfl (Rm65 hr)) (pe_callC C_tupled hr (by omega) rfl (pa_cons (pv 0) pa_nil)) (pe_glob (v := .ref (He.ga K "ALWAYS")) rfl T.g_ALWAYS rfl) (nomark _)) (pe_lst (pa_cons (pe_tup (pa_cons (pe_callC C_tupled hr (by omega) rfl (pa_cons (pv 0) pa_nil)) (pa_cons (pe_tup (pa_cons (pe_tup pa_nil) pa_nil)) pa_nil))) pa_nil)) (pe_lst pa_nil)))
        (pss_cons (ps_asg (pe_tup (pa_cons (k_dc (K := K) (P := P) (w := w) (own := [("row", 12)]) rfl rfl rfl (Rm65 hr) rfl sc_undone_logs.nd (k_pi_sq (K := K) rfl (pv 3)) (blkOk_by (by kernel_rfl)) (fun _ _ _ _ _ => (pg_name (i := 12) sc_undone_logs.nd rfl (by first | exact Or.inl rfl | exact Or.inr rfl))) (fun _ _ _ _ _ => pts_nil) (fun _ _ _ _ _ => (pv 12)) (fun _ _ _ _ _ => (pe_tup pa_nil))) (pa_cons pe_int pa_nil))) (k_pg_tup (K := K) (n := 2) rfl rfl (pgs_cons (pg_name (i := 4) sc_undone_logs.nd rfl (by first | exact Or.inl rfl | exact Or.inr rfl)) (pgs_cons (pg_name (i := 5) sc_undone_logs.nd rfl (by first | exact Or.inl rfl | exact Or.inr rfl)) pgs_nil))))
        (pss_cons (ps_while PassesOwn.never (pt_cmpR op_lt (pv 5) (pe_callB (id := "len") (k_len (K := K) rfl) (by rfl) T.b_len (by decide +kernel) (pa_cons (pv 3) pa_nil)) (nomark _)) (pss_cons (ps_asg (pe_ix (k_ixL (K := K) rfl) (pv 3) (pv 5) (fun _ _ => rfl)) (k_pg_tup (K := K) (n := 2) rfl rfl (pgs_cons (pg_name (i := 6) sc_undone_logs.nd rfl (by first | exact Or.inl rfl | exact Or.inr rfl)) (pgs_cons (pg_name (i := 7) sc_undone_logs.nd rfl (by first | exact Or.inl rfl | exact Or.inr rfl)) pgs_nil))))
        (pss_cons (ps_for PassesOwn.never rfl (k_pi_sq (K := K) rfl (pv 1)) (pg_name (i := 8) sc_undone_logs.nd rfl (by first | exact Or.inl rfl | exact Or.inr rfl)) (pss_cons (ps_set (i := 9) sc_undone_logs.nd rfl (by first | exact Or.inl rfl | exact Or.inr rfl) (pe_callTy (T := "tuple") (k_tuple (K := K) rfl) (by rfl) T.b_tuple (by decide +kernel) (pa_cons (pe_lc (own := [("log", 13)]) rfl sc_undone_logs.nd (k_pi_sq (K := K) rfl (pv 2)) (blkOk_by (by kernel_rfl)) (fun _ _ _ _ _ => (pg_name (i := 13) sc_undone_logs.nd rfl (by first | exact Or.inl rfl | exact Or.inr rfl))) (fun _ _ _ _ _ => pts_one (PW.pt (pw_or (pt_cmpR (k_inP (K := K) rfl (Rm65 hr)) (pv 13) (pv 7) (by rfl)) (pw_or1 (PW.pt (pw_and (pt_cmpR (k_inP (K := K) rfl (Rm65 hr)) (pe_slice (k_slT (K := K) rfl) (pv 13) po_none (po_some (pe_un un_neg pe_int))) (pv 7) (by rfl)) (pw_and1 (pt_cmpR (k_eqP (K := K) rfl (Rm65 hr)) (pe_slice (k_slT (K := K) rfl) (pv 13) (po_some (pe_un un_neg pe_int)) po_none) (pe_tup (pa_cons (pv 8) pa_nil)) (nomark _))))))))) (fun _ _ _ _ _ => (pv 13))) pa_nil)))
        (pss_cons (ps_set (i := 10) sc_undone_logs.nd rfl (by first | exact Or.inl rfl | exact Or.inr rfl) (pe_tup (pa_cons (pe_callC C_step hr (by omega) rfl (pa_cons (pv 6) (pa_cons (pv 8) pa_nil))) (pa_cons (pv 9) pa_nil))))
        (pss_one (ps_if (PW.pt (pw_and (pt_cmpR (k_neP (K := K) rfl (Rm65 hr)) (pe_ix (k_ixT (K := K) rfl) (pv 10) pe_int (fun _ _ => rfl)) (pe_glob (v := .ref (He.ga K "ALWAYS")) rfl T.g_ALWAYS rfl) (nomark _)) (pw_and1 (pt_cmpR (k_niN (K := K) (P := P) (w := w) rfl rfl rfl (Rm65 hr)) (pv 10) (pv 4) (by rfl))))) (pss_cons (ps_asg (pe_tup (k_star (K := K) rfl (k_dget (K := K) (P := P) (w := w) rfl rfl rfl (Rm65 hr) (pv 4) (pe_ix (k_ixL (K := K) rfl) (pv 3) (pv 5) (fun _ _ => rfl)) (fun _ _ => rfl)) (pa_cons (pv 8) pa_nil))) (pg_sub (pv 4) (pv 10) (k_dput (K := K) (P := P) (w := w) rfl rfl rfl (Rm65 hr))))
        (pss_one (ps_expr (k_bm (K := K) rfl PySem.F.plainAttrs_list PySem.F.slot_list_append PySem.F.type_list_append mt_append (pv 3) (pa_cons (pv 10) pa_nil))))) pss_nil)))))
        (pss_one (ps_aug (i := 5) sc_undone_logs.nd rfl (by first | exact Or.inl rfl | exact Or.inr rfl) pe_int ip_add)))))
        (pss_cons (ps_set (i := 11) sc_undone_logs.nd rfl (by first | exact Or.inl rfl | exact Or.inr rfl) (k_dc (K := K) (P := P) (w := w) (own := [("state", 6), ("lot", 7)]) rfl rfl rfl (Rm65 hr) rfl sc_undone_logs.nd (k_pi_sq (K := K) rfl (pv 3)) (blkOk_by (by kernel_rfl)) (fun _ _ _ _ _ => (k_pg_tup (K := K) (n := 2) rfl rfl (pgs_cons (pg_name (i := 6) sc_undone_logs.nd rfl (by first | exact Or.inl rfl | exact Or.inr rfl)) (pgs_cons (pg_name (i := 7) sc_undone_logs.nd rfl (by first | exact Or.inl rfl | exact Or.inr rfl)) pgs_nil)))) (fun _ _ _ _ _ => pts_nil) (fun _ _ _ _ _ => (pv 7)) (fun _ _ _ _ _ => (k_dget (K := K) (P := P) (w := w) rfl rfl rfl (Rm65 hr) (pv 4) (pe_tup (pa_cons (pv 6) (pa_cons (pv 7) pa_nil))) (fun _ _ => rfl)))))
        (pss_one (ps_ret (pe_lc (own := [("lot", 7)]) rfl sc_undone_logs.nd (k_keysN (P := P) (w := w) rfl rfl (pv 11)) (blkOk_by (by kernel_rfl)) (fun _ _ _ _ _ => (pg_name (i := 7) sc_undone_logs.nd rfl (by first | exact Or.inl rfl | exact Or.inr rfl))) (fun _ _ _ _ _ => pts_one (pt_not (pt_val (pe_callB (id := "any") (k_any (K := K) rfl rfl) (by rfl) T.b_any (by decide +kernel) (pa_cons (pe_lc (own := [("far", 14)]) rfl sc_undone_logs.nd (k_keysN (P := P) (w := w) rfl rfl (pv 11)) (blkOk_by (by kernel_rfl)) (fun _ _ _ _ _ => (pg_name (i := 14) sc_undone_logs.nd rfl (by first | exact Or.inl rfl | exact Or.inr rfl))) (fun _ _ _ _ _ => pts_nil) (fun _ _ _ _ _ => (pe_and (pe_cmpR (k_neP (K := K) rfl (Rm65 hr)) (pv 7) (pv 14) (nomark _)) (pe_one (pe_callB (id := "all") (k_all (K := K) rfl rfl) (by rfl) T.b_all (by decide +kernel) (pa_cons (pe_lc (own := [("log", 13)]) rfl sc_undone_logs.nd (k_pi_sq (K := K) rfl (pv 7)) (blkOk_by (by kernel_rfl)) (fun _ _ _ _ _ => (pg_name (i := 13) sc_undone_logs.nd rfl (by first | exact Or.inl rfl | exact Or.inr rfl))) (fun _ _ _ _ _ => pts_nil) (fun _ _ _ _ _ => (pe_cmpR (k_inP (K := K) rfl (Rm65 hr)) (pv 13) (pv 14) (by rfl)))) pa_nil)))))) pa_nil))))) (fun _ _ _ _ _ => (k_dget (K := K) (P := P) (w := w) rfl rfl rfl (Rm65 hr) (pv 11) (pv 7) (fun _ _ => rfl)))))))))), ?_⟩
  -- rows
  have e1 : ∀ G', Same G G' → Ev c0 K (tCall (spTupB K) [] E0 (tCons (tVar 0) tNil)) (start N_undone_logs [v1, v2, v3]) G' (is (bsD true h)) := fun G' s => ev_call (true, h) (ea_cons (ev_var rfl (dp_mono s _ _ d1)) ea_nil) hLB
  have eL : EvL c0 K (tIf (tTest (tOp (rNeP K) (tCall (spTupB K) [] E0 (tCons (tVar 0) tNil)) (tC (.ref (He.ga K "ALWAYS"))))) (tLst (tCons (tTup (tCons (tCall (spTupB K) [] E0 (tCons (tVar 0) tNil)) (tCons (tTup (tCons (tTup tNil) tNil)) tNil))) tNil)) (tLst tNil)) (start N_undone_logs [v1, v2, v3]) G ((row0 h).map rowD) := by
    refine evL_if (b := !decide (h = [[]])) (et_test (ev_neE (enc_bs true) (by omega) (e1 G (Same.refl G)) (ev_C (dp_always T G)))) (fun e => ?_) fun e => ?_
    · have hne : h ≠ [[]] := by
        intro q
        rw [decide_eq_true q] at e
        cases e
      unfold row0
      rw [if_neg hne]
      exact evL_lst (ex_cons (ev_tup2 (e1 G (Same.refl G)) (ev_tup1 (ev_tupX ex_nil (by simp)))) ex_nil) (by simp)
    · have hne : h = [[]] := by
        rcases Classical.em (h = [[]]) with q | q
        · exact q
        · rw [decide_eq_false q] at e
          cases e
      unfold row0
      rw [if_pos hne]
      exact evL_lst ex_nil (by simp)
  refine q_asgM eL hs trivial fun f G1 H1 hf g1 _ m1 => ?_
  obtain ⟨n1, acc1, a1, a2⟩ := m1.ex
  -- known, place
  have r0 : ∀ e ∈ row0 h, e.log = [] := by
    intro e he
    unfold row0 at he
    split at he
    · cases he
    · rw [List.mem_singleton] at he
      rw [he]
  refine q_dcpar (P := P) (w := w) (c := cK c0 f (.lst acc1)) (G := G1) (evDN_dc (key := rowK) (val := fun e : RW => wd e.log) rowD (es_M (i := 3) rfl (fun H j => j.2) a2) (by unfold row0; split <;> simp) (by unfold row0; split <;> simp) rowK_depth (fun e => ⟨_, rowK_data e⟩) (fun e => ⟨_, rfl⟩)
    (fun x G2 v hx s2 dv => ⟨_, tg_name (i := 12), rfl, (ev_var (i := 12) rfl dv).to (rowK_data x).symm, by rw [r0 x hx]; exact ev_tupX ex_nil (by simp)⟩)) g1.s ⟨trivial, a1⟩ (fun _ _ z => z) fun kd G2 H3 hkd g2 _ m2' => ?_
  have g2 : Grow B0 G1 H1 G2 H3 := g2
  have hkdH : H kd = none := by
    cases e : H kd with
    | none => rfl
    | some u => exact absurd hkd (g1.t kd (by rw [e]; exact fun z => nomatch z))
  have nkf : kd ≠ f := fun e => by
    rw [e, a1] at hkd
    cases hkd
  have m1' : ML K f G2 H3 ((row0 h).map rowD) := ML.grow0 ⟨n1, acc1, a1, a2⟩ g2
  have g03 : Grow B0 G H G2 H3 := g1.trans g2
  -- the walk
  let W : Nat → St → Hp → Prop := fun m σ' H' => ∃ (G' : Hp) (i : Nat) (es : List RW) (y6 y7 y8 y9 y10 y11 y12 y13 y14 : Option V), m = 40000 - i ∧ Grow B0 G H G' H' ∧ ML K f G' H' (es.map rowD) ∧ KDict K P w kd rowK (fun e : RW => wd e.log) es G' H' ∧
    bfs OStr short names (32768 - i) es i = allRows OStr short names h ∧ Good OStr h names short es ∧ i ≤ es.length ∧ σ' = [some v1, some v2, some v3, some (.ref f), some (.ref kd), some (.int (i : Int)), y6, y7, y8, y9, y10, y11, y12, y13, y14]
  refine ⟨W, ⟨40000, G2, 0, row0 h, none, none, none, none, none, none, none, none, none, rfl, g03, m1', m2', rfl, good_0 g, Nat.zero_le _, rfl⟩, ?_⟩
  rintro m σ' H' ⟨G', i, es, y6, y7, y8, y9, y10, y11, y12, y13, y14, rfl, gg, ml, mk, hb, hgood, hi, rfl⟩
  obtain ⟨nf, acc, b1, b2⟩ := ml.ex
  have hesl := good_len g hgood
  refine (et_test ((ev_I0 (ev_var (G := G') (i := 5) rfl (.int _)) (ev_lenM (c := cK c0 f (.lst acc)) (i := 3) rfl (fun H j => j.2) b2) (fun _ => .bl _)).to (e := .bool (decide (i < es.length))) ?_)) G' H' (Same.refl G') gg.s ⟨trivial, b1⟩ _ fun b G4 H4 g4 _ hbb => ?_
  · rw [List.length_map]
    exact congrArg PyData.bool (decide_eq_decide.mpr (by omega))
  have hbb : b = decide (i < es.length) := hbb
  have g4 : Grow B0 G' H' G4 H4 := g4
  have gg4 := gg.trans g4
  have ml4 := ml.grow0 g4
  have mk4 := mk.grow0 g4
  by_cases hlt : i < es.length
  · rw [decide_eq_true hlt] at hbb
    subst hbb
    rw [if_pos rfl]
    have hr : es[i]? = some es[i] := List.getElem?_eq_getElem hlt
    generalize es[i] = r at hr
    have hrg := hgood.each r (List.mem_of_getElem? hr)
    have hfuel : ∃ n, 32768 - i = n + 1 ∧ 32768 - (i + 1) = n := ⟨32768 - (i + 1), by omega, rfl⟩
    obtain ⟨n, hn1, hn2⟩ := hfuel
    have hb' : bfs OStr short names n (turn OStr short names es r) (i + 1) = allRows OStr short names h := by
      rw [← hb, hn1, bfs_step OStr hr]
    obtain ⟨hg1, ⟨tl, htl⟩, _⟩ := turn_good g hgood hrg (Nat.lt_of_le_of_lt (hgood.len i r hr) hlt)
    refine ⟨fun σ'' H'' => W (40000 - (i + 1)) σ'' H'', fun σ'' H'' q => ⟨_, by omega, q⟩, ?_⟩
    obtain ⟨nf4, acc4, c1, c2⟩ := ml4.ex
    refine q_asg2 (c := cK c0 f (.lst acc4)) (K := K) (G := G4) (φ := is (bsD true r.st)) (ψ := is (bsD true r.lot)) ((ev_ixM (c := cK c0 f (.lst acc4)) (d := rowD r) rfl (fun H j => j.2) c2 (ev_var rfl (.int _)) (by rw [List.getElem?_map, hr]; rfl)).imp fun d e => ⟨_, _, e, rfl, rfl⟩) g4.s ⟨trivial, c1⟩ fun u6 u7 e6 e7 G5 H5 g5 _ du6 du7 p6 p7 => ?_
    subst p6 p7
    have g5 : Grow B0 G4 H4 G5 H5 := g5
    have gg5 := gg4.trans g5
    refine q_forI (c := c0) (G := G5) PyData.str names (es_T (ev_var rfl (dp_mono gg5.g _ _ d2))) gg5.s trivial
      (fun j σ' G' H' => Grow B0 G H G' H' ∧ Same G5 G' ∧ ∃ es' z8 z9 z10 z11 z12 z13 z14, es' = (names.take j).foldl (fun es a => addOne OStr short es r a) es ∧ ML K f G' H' (es'.map rowD) ∧ KDict K P w kd rowK (fun e : RW => wd e.log) es' G' H' ∧ Good OStr h names short es' ∧ (∃ t, es' = es ++ t) ∧
        σ' = [some v1, some v2, some v3, some (.ref f), some (.ref kd), some (.int (i : Int)), some u6, some u7, z8, z9, z10, z11, z12, z13, z14])
      (fun G6 H6 g6 _ => ⟨gg5.trans g6, g6.g, es, y8, y9, y10, y11, y12, y13, y14, rfl, (ml4.grow0 g5).grow0 g6, (mk4.grow0 g5).grow0 g6, hgood, ⟨[], (List.append_nil _).symm⟩, rfl⟩) (fun j σ' G' H' q => q.1.s) ?_ ?_
    · rintro G0 hG0 j a σ' G6 H6 ha s0 ⟨gg6, s56, es', z8, z9, z10, z11, z12, z13, z14, hes, ml6, mk6, hgood6, ⟨tt6, het⟩, rfl⟩ v G7 H7 g7 dv
      refine ⟨_, tg_name, ?_⟩
      have gg7 := gg6.trans g7
      have s57 := s56.trans g7.g
      have ml7 := ml6.grow0 g7
      have mk7 := mk6.grow0 g7
      have han : a ∈ names := List.mem_of_getElem? ha
      have hnext : (names.take (j + 1)).foldl (fun es a => addOne OStr short es r a) es = addOne OStr short es' r a := by
        rw [take_succ' ha, List.foldl_append, ← hes]
        rfl
      have hrl : r.log.length ≤ i := hgood.len i r hr
      have hgood7 := good_add g hgood6 hrg (by rw [het, List.length_append]; omega) han
      -- more
      refine q_asg (c := c0) (K := K) (G := G7) (φ := is (bsD true (moreM short r.lot a))) (ev_tupleL (ev_pick wd short (fun l => decide (l ∈ r.lot) || (decide (l.dropLast ∈ r.lot) && decide (l.drop (l.length - 1) = [a]))) wd (es_L (ev_var rfl (dp_mono gg7.g _ _ d3))) (by omega) (fun _ => rfl) (fun l G8 v8 hl s8 dv8 => ?_) fun l G8 v8 hl s8 dv8 _ => ev_var rfl dv8)) gg7.s trivial fun u9 e9 G9 H9 g9 _ du9 p9 => ?_
      · have dl : Dp K G8 u7 (bsD true r.lot) := dp_mono (s57.trans s8) _ _ du7
        refine et_or (et_test (ev_inE (t := true) enc_wd (by omega) (ev_var rfl dv8) (ev_var rfl dl))) fun _ => et_and (et_test (ev_inE (t := true) enc_wd (by omega) ((ev_slT (ev_var rfl dv8) eo_none (eo_some (K := K) (i := -1) (ev_neg (i := 1) ev_int))).to ?_) (ev_var rfl dl))) fun _ => et_test (ev_eqE enc_wd (by omega) ((ev_slT (ev_var rfl dv8) (eo_some (K := K) (i := -1) (ev_neg (i := 1) ev_int)) eo_none).to ?_) (ev_tup1 (ev_var rfl (dp_mono s8 _ _ dv))))
        · rw [cutD_map, cutD_init]
          rfl
        · rw [cutD_map, cutD_last]
          rfl
      subst p9
      have gg9 := gg7.trans g9
      have ml9 := ml7.grow0 g9
      have mk9 := mk7.grow0 g9
      have hstl : r.st.length ≤ short.length := List.Nodup.length_le_of_subset (base_nodup OStr hrg.base) hrg.sub
      -- later
      refine q_asg (c := c0) (K := K) (G := G9) (φ := is (rowD (rowOf OStr short r a))) (ev_tup2 (ev_call (r.st, a) (ea_cons (ev_var rfl (dp_mono (s57.trans g9.g) _ _ du6)) (ea_cons (ev_var rfl (dp_mono g9.g _ _ dv)) ea_nil)) ⟨by show r.st.length < 64; omega, by show r.st.length ≤ 100000; omega, fun l hl => hlw l (hrg.sub l hl)⟩) (ev_var rfl du9)) gg9.s trivial fun u10 e10 G10 H10 g10 _ du10 p10 => ?_
      subst p10
      have gg10 := gg9.trans g10
      have ml10 := ml9.grow0 g10
      obtain ⟨nk10, xs, ep, hx10, hent⟩ := (mk9.grow0 g10).ex
      -- if
      refine st_if (c := cK c0 kd (DO P w kd xs ep)) (G := G10) (φ := is (fresh es' (rowOf OStr short r a))) ((et_and (a := !decide ((rowOf OStr short r a).st = [[]])) (b := !decide (rowK (rowOf OStr short r a) ∈ es'.map rowK)) (et_test (ev_neE (enc_bs true) (by omega) (ev_ixT (i := 0) (ev_var rfl du10) ev_int rfl) (ev_C (dp_always T G10)))) fun _ => et_test (ev_niN (c := cK c0 kd (DO P w kd xs ep)) rfl (fun _ _ _ _ j => j.2) hent rowK_depth (rowK_depth _) ⟨_, rowK_data _⟩ ((ev_var rfl du10).to (rowK_data _).symm))).to (fresh_eq es' _).symm) gg10.s ⟨trivial, hx10⟩ fun b G11 H11 g11 _ hfr => ?_
      have g11 : Grow B0 G10 H10 G11 H11 := g11
      have gg11 := gg10.trans g11
      have ml11 := ml10.grow0 g11
      have mk11 : KDict K P w kd rowK (fun e : RW => wd e.log) es' G11 H11 := KDict.grow0 ⟨nk10, xs, ep, hx10, hent⟩ g11
      have hfr : b = fresh es' (rowOf OStr short r a) := hfr
      cases hf' : fresh es' (rowOf OStr short r a) with
      | false =>
        rw [hf'] at hfr
        subst hfr
        refine ⟨G11, ((((s0.trans g7.g).trans g9.g).trans g10.g).trans g11.g), gg11, (((s57.trans g9.g).trans g10.g).trans g11.g), es', _, _, _, _, _, _, _, ?_, ml11, mk11, hgood6, ⟨tt6, het⟩, rfl⟩
        rw [hnext]
        unfold addOne
        rw [hf', if_neg Bool.false_ne_true]
      | true =>
        rw [hf'] at hfr
        subst hfr
        have hadd : addOne OStr short es' r a = es' ++ [rowOf OStr short r a] := by
          unfold addOne
          rw [hf', if_pos rfl]
        have hnew : rowK (rowOf OStr short r a) ∉ es'.map rowK := by
          rw [fresh_eq, Bool.and_eq_true, Bool.not_eq_true', Bool.not_eq_true', decide_eq_false_iff_not, decide_eq_false_iff_not] at hf'
          exact hf'.2
        have hl7 : es'.length < 100000 := by
          have := good_len g hgood6
          omega
        have hri : es'[i]? = some r := by
          rw [het, List.getElem?_append_left hlt]
          exact hr
        have hrm : r ∈ es' := List.mem_of_getElem? hri
        obtain ⟨nf11, acc11, x1, x2⟩ := ml11.ex
        obtain ⟨nk11, xs11, ep11, w1, w2⟩ := mk11.ex
        have evlog : Ev (cK (cK c0 f (.lst acc11)) kd (DO P w kd xs11 ep11)) K (tTup (StX.tStar K (tDGetN K P w (tVar 4) (tOp (rIxL K) (tVar 3) (tVar 5))) (tCons (tVar 8) tNil))) [some v1, some v2, some v3, some (.ref f), some (.ref kd), some (.int (i : Int)), some u6, some u7, some v, some u9, some u10, z11, z12, z13, z14] G11 (is (wd (r.log ++ [a]))) := by
          refine (ev_tupX (ex_star (t := true) (es := r.log.map .str) (ev_dget (c := cK (cK c0 f (.lst acc11)) kd (DO P w kd xs11 ep11)) (key := rowK) (val := fun e : RW => wd e.log) (e := r) (i := 4) rfl (fun _ _ _ _ j => j.2) w2 rowK_depth ⟨_, rowK_data r⟩ ((ev_ixM (c := cK (cK c0 f (.lst acc11)) kd (DO P w kd xs11 ep11)) (d := rowD r) (i := 3) rfl (fun H j => j.1.2) x2 (ev_var (i := 5) rfl (.int _)) (by rw [List.getElem?_map, hri]; rfl)).to (rowK_data r).symm) hrm) (ex_cons (ev_var (i := 8) rfl (dp_mono ((g9.g.trans g10.g).trans g11.g) _ _ dv)) ex_nil)) ?_).to ?_
          · rw [List.length_append, List.length_map, List.length_singleton]
            omega
          · show PyData.tuple _ = .tuple ((r.log ++ [a]).map .str)
            rw [List.map_append]
            rfl
        refine q_dput (c := cK c0 f (.lst acc11)) (K := K) (G := G11) (e := rowOf OStr short r a) rfl rfl nk11 w1 w2 rowK_depth ⟨_, rowK_data _⟩ ⟨_, rfl⟩ (by rw [rowK_data]; exact dp_mono g11.g _ _ du10) evlog gg11.s ⟨trivial, x1⟩ (fun z => z.elim id nkf) hnew hl7 fun G12 H12 gr12 lst12 j12 mk12 s12 t12 => ?_
        · have gg12 := gr12 G H gg11 hkdH
          have ml12 := lst12 f _ (Ne.symm nkf) (fun z => z) ml11
          refine st_append2 (c := c0) rfl ml12 (ev_var rfl (dp_mono (g11.g.trans s12) _ _ du10)) t12 trivial (fun z => z) (by rw [List.length_map]; exact hl7) fun d G13 H13 gr13 keep13 _ p13 ml13 s13 t13 => ?_
          subst p13
          obtain ⟨nk12, xs12, ep12, y1, y2⟩ := mk12.ex
          obtain ⟨y3, y4⟩ := keep13 kd _ nkf (fun z => z) y1
          refine ⟨G13, ((((((s0.trans g7.g).trans g9.g).trans g10.g).trans g11.g).trans s12).trans s13), gr13 G H gg12 hf, (((((s57.trans g9.g).trans g10.g).trans g11.g).trans s12).trans s13), es' ++ [rowOf OStr short r a], _, _, _, _, _, _, _, ?_, ?_, ⟨y4 nk12, xs12, ep12, y3, y2.mono s13⟩, by rw [← hadd]; exact hgood7, ⟨tt6 ++ [rowOf OStr short r a], by rw [het, List.append_assoc]⟩, rfl⟩
          · rw [hnext, hadd]
          · rw [List.map_append]
            exact ml13
    · rintro σ' G6 H6 sg ⟨gg6, s56, es', z8, z9, z10, z11, z12, z13, z14, hes, ml6, mk6, hgood6, het, rfl⟩
      rw [List.take_length] at hes
      have hes : es' = turn OStr short names es r := hes
      subst hes
      refine ⟨_, rfl, (i : Int), 1, rfl, rfl, G6, i + 1, _, some u6, some u7, z8, z9, z10, z11, z12, z13, z14, rfl, gg6, ml6, mk6, by rw [hn2]; exact hb', hgood6, by rw [htl, List.length_append]; omega, ?_⟩
      rw [Int.natCast_add]
      rfl
  · rw [decide_eq_false hlt] at hbb
    subst hbb
    rw [if_neg Bool.false_ne_true]
    have hie : i = es.length := by omega
    have hall : es = allRows OStr short names h := by
      rw [← hb]
      exact (bfs_none OStr (List.getElem?_eq_none (by omega))).symm
    subst hall
    generalize hes : allRows OStr short names h = es at *
    obtain ⟨nf4, acc4, c1, c2⟩ := ml4.ex
    obtain ⟨nk4, xs4, ep4, w1, w2⟩ := mk4.ex
    refine q_dcN (P := P) (w := w) (c := cK (cK c0 f (.lst acc4)) kd (DO P w kd xs4 ep4)) (G := G4) (key := fun e : RW => bsK e.lot) (val := fun e : RW => wd e.log) (evDN_dc rowD (es_M (i := 3) rfl (fun H j => j.1.2) c2) (by omega) ?_ (fun e => by have := bsK_depth e.lot; omega) (fun e => ⟨_, bsK_data e.lot⟩) (fun e => ⟨_, rfl⟩) fun x G5 v hx s5 dv => ?_) gg4.s ⟨⟨trivial, c1⟩, w1⟩ fun ld G5 H5 hld g5 _ mk5 => ?_
    · have hn := hgood.nd
      rw [show (fun e : RW => bsK e.lot) = bsK ∘ Rw.lot from rfl, ← List.map_map]
      exact List.pairwise_map.mpr (hn.imp fun q e => q (bsK_inj e))
    · obtain ⟨u6, u7, p1, p2, tg⟩ := tg_pair (i := 6) (j := 7) (σ := [some v1, some v2, some v3, some (.ref f), some (.ref kd), some (.int (i : Int)), none, none, y8, y9, y10, y11, y12, y13, y14]) dv
      refine ⟨_, tg, rfl, (ev_var (i := 7) rfl p2).to (bsK_data _).symm, ?_⟩
      exact ev_dget (c := cK (cK c0 f (.lst acc4)) kd (DO P w kd xs4 ep4)) (key := rowK) (val := fun e : RW => wd e.log) (e := x) (i := 4) rfl (fun _ _ _ _ j => j.2) (w2.mono s5) rowK_depth ⟨_, rowK_data x⟩ ((ev_tup2 (ev_var (i := 6) rfl p1) (ev_var (i := 7) rfl p2)).to (rowK_data x).symm) hx
    · have g5 : Grow B0 G4 H4 G5 H5 := g5
      have gg5 := gg4.trans g5
      obtain ⟨nl5, xs5, ep5, x1, x2⟩ := mk5.ex
      have hldH : H ld = none := by
        cases e : H ld with
        | none => rfl
        | some u => exact absurd hld (gg4.t ld (by rw [e]; exact fun z => nomatch z))
      have gg6 := gg5.know hldH x1 hs
      have x3 := x2.mono (same_new (o := DO P w ld xs5 ep5) nl5)
      have x4 : upd G5 ld (DO P w ld xs5 ep5) ld = some (DO P w ld xs5 ep5) := upd_same
      generalize upd G5 ld (DO P w ld xs5 ep5) = G6 at gg6 x3 x4
      refine st_ret (c := c0) (K := K) (G := G6) (φ := is (bsD false (undone OStr short names h))) ?_ gg6.s trivial fun v d G7 H7 g7 _ dv e => by subst e; exact k v G7 H7 (gg6.trans g7) dv
      have hH : ∀ G7, Same G6 G7 → ∀ G0 H : Hp, Same G7 G0 → Same G0 H → c0.J H → H ld = some (DO P w ld xs5 ep5) := fun G7 s7 G0 H a b _ => b _ _ (a _ _ (s7 _ _ x4))
      refine (ev_pick (fun e : RW => (bsK e.lot).data) es (fun e => !(es.any fun f => !decide (e.lot = f.lot) && e.lot.all fun l => decide (l ∈ f.lot))) (fun e => wd e.log) (es_keys (i := 11) rfl x4 x3) (by omega) (fun _ => rfl) (fun e G7 v he s7 dv => ?_) fun e G7 v he s7 dv _ => ?_).to ?_
      · rw [bsK_data] at dv
        refine et_not (et_B (ev_anyMap (fun e : RW => (bsK e.lot).data) es _ (es_keys (i := 11) rfl (s7 _ _ x4) (x3.mono s7)) (by omega) (fun _ => rfl) fun f' G8 v8 hf' s8 dv8 => ?_))
        rw [bsK_data] at dv8
        have dv' := dp_mono s8 _ _ dv
        refine ev_andV (ev_neE (enc_bs true) (by omega) (ev_var rfl dv') (ev_var rfl dv8)) fun _ => ?_
        have hel : e.lot.length ≤ 15 := by
          rw [(hgood.each e he).lot]
          exact Nat.le_trans (List.length_filter_le ..) hfew
        exact ev_allMap wd e.lot (fun l => decide (l ∈ f'.lot)) (es_T (ev_var rfl dv')) (by omega) (fun _ => rfl) fun l G9 v9 hl s9 dv9 => ev_inE (t := true) enc_wd (by omega) (ev_var rfl dv9) (ev_var rfl (dp_mono s9 _ _ dv8))
      · exact ev_dget (key := fun e : RW => bsK e.lot) (val := fun e : RW => wd e.log) (e := e) (i := 11) rfl (hH G7 s7) (x3.mono s7) (fun e => by have := bsK_depth e.lot; omega) ⟨_, bsK_data e.lot⟩ (ev_var rfl dv) he
      · show PyData.list _ = .list ((undone OStr short names h).map wd)
        unfold undone widest
        rw [hes, List.map_map]
        rfl
end
end Mk
/-! ## MkFind -/
set_option autoImplicit true
set_option Elab.async false
set_option linter.all false
set_option maxRecDepth 100000
/-! The finder's laws, with no program in sight. -/
namespace Mk
open PySem MkM
/-- each ask was answered by h -/
def Honest (h : List Wd) (f : Fd) : Prop := ∀ a ∈ f.asks, a.2 = does h a.1
/-- the hidden base is over the short logs -/
structure Hid (h : List Wd) (f : Fd) : Prop where
  base : Base OStr h
  sub : ∀ w ∈ h, w ∈ f.short
  names : f.names.Nodup
  hon : Honest h f
theorem sub_anti {a b : Wd} (h : a.Sublist b) (k : b.Sublist a) : a = b := h.eq_of_length (Nat.le_antisymm h.length_le k.length_le)
theorem rows_iff {f : Fd} {l : Wd} : l ∈ f.rows ↔ l ∈ f.short ∧ ∀ a ∈ f.asks, a.2 = false → ¬ l.Sublist a.1 := by
  show l ∈ rowsOf f.short f.asks ↔ _
  unfold rowsOf
  rw [List.mem_filter, Bool.not_eq_true', List.any_eq_false]
  refine and_congr_right fun _ => ?_
  constructor
  · intro h a ha e s
    exact h a (List.mem_filter.mpr ⟨ha, by rw [e]; rfl⟩) ((isPart_iff l a.1).mpr s)
  · intro h a ha p
    obtain ⟨ha1, ha2⟩ := List.mem_filter.mp ha
    exact h a ha1 (by simpa using ha2) ((isPart_iff l a.1).mp p)
theorem near_iff {f : Fd} {few : List Wd} : few ∈ f.near ↔ ∃ a ∈ f.asks, a.2 = true ∧ partsIn f.rows a.1 = few := by
  show few ∈ nearOf f.short f.asks ↔ _
  unfold nearOf
  rw [List.mem_map]
  constructor
  · rintro ⟨a, ha, e⟩
    obtain ⟨h1, h2⟩ := List.mem_filter.mp ha
    exact ⟨a, h1, h2, e⟩
  · rintro ⟨a, h1, h2, e⟩
    exact ⟨a, List.mem_filter.mpr ⟨h1, h2⟩, e⟩
theorem parts_iff {rows : List Wd} {l r : Wd} : r ∈ partsIn rows l ↔ r ∈ rows ∧ r.Sublist l := by
  unfold partsIn
  rw [List.mem_filter, isPart_iff]
section
variable {h : List Wd} {f : Fd}
theorem Hid.rows (H : Hid h f) {w : Wd} (hw : w ∈ h) : w ∈ f.rows := rows_iff.mpr ⟨H.sub w hw, fun a ha e s => by
  have := H.hon a ha
  rw [e, does_mono (does_mem hw) s] at this
  cases this⟩
theorem Hid.near_ne (H : Hid h f) : [] ∉ f.near := fun q => by
  obtain ⟨a, ha, e, p⟩ := near_iff.mp q
  have hd := H.hon a ha
  rw [e] at hd
  obtain ⟨w, hw, s⟩ := (does_iff h a.1).mp hd.symm
  have : w ∈ partsIn f.rows a.1 := parts_iff.mpr ⟨H.rows hw, s⟩
  rw [p] at this
  cases this
theorem short_nd (H : Hid h f) : f.short.Nodup := shortOf_nodup H.names _
theorem rows_nd (H : Hid h f) : f.rows.Nodup := (short_nd H).filter _
theorem Hid.greatest (H : Hid h f) {l : Wd} (hd : does h l = true) : does f.greatest l = true := by
  unfold Fd.greatest
  rw [does_leastOf]
  obtain ⟨w, hw, s⟩ := (does_iff h l).mp hd
  exact (does_iff _ l).mpr ⟨w, H.rows hw, s⟩
theorem Hid.one (H : Hid h f) {x : Wd} (q : [x] ∈ f.near) : x ∈ h := by
  obtain ⟨a, ha, e, p⟩ := near_iff.mp q
  have hd := H.hon a ha
  rw [e] at hd
  obtain ⟨w, hw, s⟩ := (does_iff h a.1).mp hd.symm
  have : w ∈ partsIn f.rows a.1 := parts_iff.mpr ⟨H.rows hw, s⟩
  rw [p, List.mem_singleton] at this
  rw [← this]
  exact hw
theorem Hid.forced (H : Hid h f) {x : Wd} (q : x ∈ f.forced) : x ∈ h := H.one (of_decide_eq_true (List.mem_filter.mp q).2)
theorem Hid.found (H : Hid h f) {b : List Wd} (e : f.found = some b) : b = h := by
  unfold Fd.found at e
  split at e
  · rename_i q
    have e := Option.some.inj e
    subst e
    refine base_unique OStr (leastOf_base OStr _) H.base fun l => ?_
    rw [Bool.eq_iff_iff]
    refine ⟨fun d => ?_, fun d => H.greatest d⟩
    have d : does f.greatest l = true := d
    rw [← q] at d
    obtain ⟨w, hw, s⟩ := (does_iff _ l).mp d
    exact (does_iff _ l).mpr ⟨w, H.forced hw, s⟩
  · cases e
theorem Hid.sure (H : Hid h f) {l : Wd} {v : Bool} (e : f.sure l = some v) : v = does h l := by
  unfold Fd.sure sureBy at e
  cases hd : does f.rows l with
  | false =>
    rw [hd] at e
    have e : some false = some v := e
    cases e
    cases q : does h l with
    | false => rfl
    | true =>
      obtain ⟨w, hw, s⟩ := (does_iff h l).mp q
      rw [(does_iff _ l).mpr ⟨w, H.rows hw, s⟩] at hd
      cases hd
  | true =>
    rw [hd, if_pos rfl] at e
    split at e
    · rename_i q
      cases e
      obtain ⟨few, hf, p⟩ := List.any_eq_true.mp q
      have p : partsIn few l = few := of_decide_eq_true p
      obtain ⟨a, ha, e, rfl⟩ := near_iff.mp hf
      have hd := H.hon a ha
      rw [e] at hd
      obtain ⟨w, hw, s⟩ := (does_iff h a.1).mp hd.symm
      have : w ∈ partsIn f.rows a.1 := parts_iff.mpr ⟨H.rows hw, s⟩
      rw [← p] at this
      exact ((does_iff h l).mpr ⟨w, hw, (parts_iff.mp this).2⟩).symm
    · cases e
theorem left_forced (f : Fd) : f.left = [] ↔ f.forced = f.greatest := by
  unfold Fd.left Fd.forced Fd.greatest
  rw [List.filter_eq_nil_iff, List.filter_eq_self]
  constructor
  · intro q x hx
    have := q x hx
    simpa using this
  · intro q x hx
    rw [q x hx]
    simp
theorem another_none (f : Fd) : f.another = none ↔ f.found ≠ none := by
  have := left_forced f
  unfold Fd.another Fd.found
  cases hl : f.left with
  | nil =>
    rw [if_pos (this.mp hl)]
    simp
  | cons g r =>
    rw [if_neg (fun q => by rw [this.mpr q] at hl; cases hl)]
    simp
/-- all sure: all is found -/
theorem Hid.all_sure (H : Hid h f) (q : ∀ l ∈ f.short, sureBy l f.rows f.near ≠ none) : f.forced = f.greatest := by
  unfold Fd.forced Fd.greatest
  refine List.filter_eq_self.mpr fun g hg => decide_eq_true ?_
  have hgr : g ∈ f.rows := leastOf_mem OStr hg
  have hs := q g (rows_sub f hgr)
  have hd : does f.rows g = true := does_mem hgr
  unfold sureBy at hs
  rw [hd, if_pos rfl] at hs
  split at hs
  · rename_i p
    obtain ⟨few, hf, p⟩ := List.any_eq_true.mp p
    have p : partsIn few g = few := of_decide_eq_true p
    have hne : few ≠ [] := fun e => H.near_ne (by rw [← e]; exact hf)
    obtain ⟨a, ha, e, rfl⟩ := near_iff.mp hf
    have hall : ∀ r ∈ partsIn f.rows a.1, r = g := by
      intro r hr
      have hr1 := (parts_iff.mp hr).1
      rw [← p] at hr
      have hr2 := (parts_iff.mp hr).2
      obtain ⟨w, hw, s⟩ := leastOf_below OStr hr1
      have : w = g := (leastOf_base OStr f.rows).anti w hw g hg (s.trans hr2)
      rw [this] at s
      exact sub_anti hr2 s
    have hn : (partsIn f.rows a.1).Nodup := (rows_nd H).filter _
    generalize partsIn f.rows a.1 = few at hne hall hn hf
    match few, hne, hall, hn, hf with
    | [v], _, hall, _, hf => rw [hall v List.mem_cons_self] at hf; exact hf
    | v :: u :: r, _, hall, hn, _ =>
      have e1 := hall v List.mem_cons_self
      have e2 := hall u (List.mem_cons_of_mem _ List.mem_cons_self)
      rw [List.nodup_cons] at hn
      exact absurd (by rw [e1, e2]; exact List.mem_cons_self) hn.1
  · exact absurd rfl hs
theorem Hid.next (H : Hid h f) (q : f.found = none) : ∃ l, f.next = some l ∧ l ∈ f.short ∧ ∀ b, (l, b) ∉ f.asks := by
  cases e : f.next with
  | none =>
    exfalso
    have hall : f.forced = f.greatest := H.all_sure fun l hl z => by
      have := List.find?_eq_none.mp e l hl
      rw [z] at this
      exact this rfl
    unfold Fd.found at q
    rw [if_pos hall] at q
    cases q
  | some l =>
    refine ⟨l, rfl, List.mem_of_find?_eq_some e, fun b hb => ?_⟩
    have hn := List.find?_some e
    have hbd := H.hon _ hb
    have hbd : b = does h l := hbd
    unfold sureBy at hn
    cases b with
    | false =>
      have hz : does f.rows l = false := by
        cases z : does f.rows l with
        | false => rfl
        | true =>
          obtain ⟨r, hr, s⟩ := (does_iff _ l).mp z
          exact absurd s ((rows_iff.mp hr).2 _ hb rfl)
      rw [hz] at hn
      cases hn
    | true =>
      obtain ⟨w, hw, s⟩ := (does_iff h l).mp hbd.symm
      rw [(does_iff _ l).mpr ⟨w, H.rows hw, s⟩, if_pos rfl] at hn
      have hany : (f.near.any fun few => decide (partsIn few l = few)) = true := List.any_eq_true.mpr ⟨partsIn f.rows l, near_iff.mpr ⟨_, hb, rfl, rfl⟩, decide_eq_true (by
        unfold partsIn
        rw [List.filter_filter]
        refine List.filter_congr fun r _ => ?_
        rw [Bool.and_self])⟩
      rw [if_pos hany] at hn
      cases hn
/-! ### asks -/
theorem mem_put {l : Wd} {b : Bool} {a : AskT} : a ∈ (f.put l b).asks ↔ a ∈ f.asks ∨ a = (l, b) := by
  unfold Fd.put
  show a ∈ (if (l, b) ∈ f.asks then f.asks else f.asks ++ [(l, b)]) ↔ _
  split
  · rename_i q
    constructor
    · exact fun x => .inl x
    · rintro (x | rfl)
      · exact x
      · exact q
  · rw [List.mem_append, List.mem_singleton]
theorem put_len {l : Wd} {b : Bool} : (f.put l b).asks.length ≤ f.asks.length + 1 := by
  unfold Fd.put
  show (if (l, b) ∈ f.asks then f.asks else f.asks ++ [(l, b)]).length ≤ _
  split
  · omega
  · rw [List.length_append, List.length_singleton]
    exact Nat.le_refl _
theorem Hid.put (H : Hid h f) (l : Wd) : Hid h (f.put l (does h l)) := ⟨H.base, H.sub, H.names, fun a ha => by
  rcases mem_put.mp ha with ha | rfl
  · exact H.hon a ha
  · rfl⟩
def asked (h : List Wd) (f : Fd) (ls : List Wd) : Fd := ls.foldl (fun f l => f.put l (does h l)) f
theorem asked_hid : ∀ (ls : List Wd) {f : Fd}, Hid h f → Hid h (asked h f ls)
  | [], _, H => H
  | l :: ls, _, H => asked_hid ls (H.put l)
theorem asked_names : ∀ (ls : List Wd) {f : Fd}, (asked h f ls).names = f.names ∧ (asked h f ls).most = f.most
  | [], _ => ⟨rfl, rfl⟩
  | l :: ls, f => by
    obtain ⟨h1, h2⟩ := asked_names ls (f := f.put l (does h l))
    exact ⟨h1, h2⟩
theorem asked_mem {a : AskT} : ∀ (ls : List Wd) {f : Fd}, a ∈ (asked h f ls).asks ↔ a ∈ f.asks ∨ (a.1 ∈ ls ∧ a.2 = does h a.1)
  | [], _ => ⟨fun x => .inl x, fun x => x.elim id fun y => nomatch y.1⟩
  | l :: ls, f => by
    show a ∈ (asked h (f.put l (does h l)) ls).asks ↔ _
    rw [asked_mem ls, mem_put]
    constructor
    · rintro ((x | rfl) | ⟨x, y⟩)
      · exact .inl x
      · exact .inr ⟨List.mem_cons_self, rfl⟩
      · exact .inr ⟨List.mem_cons_of_mem _ x, y⟩
    · rintro (x | ⟨x, y⟩)
      · exact .inl (.inl x)
      · rcases List.mem_cons.mp x with x | x
        · obtain ⟨a1, a2⟩ := a
          have x : a1 = l := x
          have y : a2 = does h a1 := y
          subst x
          subst y
          exact .inl (.inr rfl)
        · exact .inr ⟨x, y⟩
theorem asked_len : ∀ (ls : List Wd) {f : Fd}, (asked h f ls).asks.length ≤ f.asks.length + ls.length
  | [], _ => Nat.le_refl _
  | l :: ls, f => by
    have h1 := asked_len ls (f := f.put l (does h l))
    have h2 := put_len (f := f) (l := l) (b := does h l)
    show (asked h (f.put l (does h l)) ls).asks.length ≤ _
    rw [List.length_cons]
    omega
/-! ### what teaches the base -/
structure Taught (h : List Wd) (f : Fd) : Prop where
  pos : ∀ w ∈ h, ∃ a ∈ f.asks, a.2 = true ∧ partsIn f.rows a.1 = [w]
  neg : ∀ l ∈ f.short, does h l = false → ∃ a ∈ f.asks, a.2 = false ∧ l.Sublist a.1
theorem Hid.taught (H : Hid h f) (e : f.found = some h) : Taught h f := by
  unfold Fd.found at e
  split at e
  · rename_i q
    have e := Option.some.inj e
    refine ⟨fun w hw => ?_, fun l hl hd => ?_⟩
    · rw [← e, ← q] at hw
      exact near_iff.mp (of_decide_eq_true (List.mem_filter.mp hw).2)
    · refine Classical.byContradiction fun z => ?_
      have hr : l ∈ f.rows := rows_iff.mpr ⟨hl, fun a ha ea s => z ⟨a, ha, ea, s⟩⟩
      have : does f.greatest l = true := by
        unfold Fd.greatest
        rw [does_leastOf]
        exact does_mem hr
      rw [e, hd] at this
      cases this
  · cases e
theorem Hid.found_of (H : Hid h f) (t : Taught h f) : f.found = some h := by
  have hr : ∀ l ∈ f.rows, does h l = true := by
    intro l hl
    cases e : does h l with
    | true => rfl
    | false =>
      obtain ⟨a, ha, e2, s⟩ := t.neg l (rows_sub f hl) e
      exact absurd s ((rows_iff.mp hl).2 a ha e2)
  have hg : f.greatest = h := base_unique OStr (leastOf_base OStr _) H.base fun l => by
    rw [Bool.eq_iff_iff]
    refine ⟨fun d => ?_, fun d => H.greatest d⟩
    have d : does (leO f.rows) l = true := d
    rw [does_leastOf] at d
    obtain ⟨r, hr', s⟩ := (does_iff _ l).mp d
    exact does_mono (hr r hr') s
  have hf : f.forced = f.greatest := by
    unfold Fd.forced
    refine List.filter_eq_self.mpr fun w hw => decide_eq_true ?_
    have hw : w ∈ f.greatest := hw
    rw [hg] at hw
    exact near_iff.mpr (t.pos w hw)
  unfold Fd.found
  rw [if_pos hf, hg]
theorem Hid.found_or (H : Hid h f) : f.found = none ∨ f.found = some h := by
  cases e : f.found with
  | none => exact .inl rfl
  | some b => rw [H.found e]; exact .inr rfl
end
end Mk
/-! ## MkPaper -/
set_option autoImplicit true
set_option Elab.async false
set_option linter.all false
set_option maxRecDepth 100000
/-! The paper's laws, with no program in sight. -/
namespace Mk
open PySem MkM
def leftO (names : List Str) (most : Nat) (h : List Wd) : List Wd := ((shortOf names most).filter fun l => !does h l).reverse
def coverO (names : List Str) (most : Nat) (h : List Wd) : List Wd := cover (undone OStr (shortOf names most) names h) 15 (leftO names most h)
def paperO (names : List Str) (most : Nat) (h : List Wd) : List Wd := h ++ coverO names most h
/-- the law's case -/
structure Case (names : List Str) (most : Nat) (h : List Wd) : Prop where
  nd : names.Nodup
  n3 : names.length ≤ 3
  m3 : most ≤ 3
  few : (shortOf names most).length ≤ 15
  base : Base OStr h
  sub : ∀ w ∈ h, w ∈ shortOf names most
section
variable {names : List Str} {most : Nat} {h : List Wd}
theorem Case.ground (c : Case names most h) : Ground OStr h names (shortOf names most) where
  base := c.base
  sub := c.sub
  closed w hw v s := by
    obtain ⟨h1, h2⟩ := mem_shortOf.mp hw
    exact mem_shortOf.mpr ⟨Nat.le_trans s.length_le h1, fun x hx => h2 x (s.subset hx)⟩
  nd := shortOf_nodup c.nd _
  nil := mem_shortOf.mpr ⟨Nat.zero_le _, fun _ z => nomatch z⟩
  few := c.few
theorem nd_inj {α : Type} : ∀ {l : List α}, l.Nodup → ∀ {i j : Nat} (hi : i < l.length) (hj : j < l.length), l[i] = l[j] → i = j
  | [], _, i, j, hi, _, _ => absurd hi (Nat.not_lt_zero _)
  | x :: l, hn, i, j, hi, hj, e => by
    rw [List.nodup_cons] at hn
    match i, j, hi, hj, e with
    | 0, 0, _, _, _ => rfl
    | 0, j + 1, _, hj, e =>
      have hj : j < l.length := by simpa using hj
      have e : x = l[j] := e
      exact absurd (by rw [e]; exact List.getElem_mem hj) hn.1
    | i + 1, 0, hi, _, e =>
      have hi : i < l.length := by simpa using hi
      have e : l[i] = x := e
      exact absurd (by rw [← e]; exact List.getElem_mem hi) hn.1
    | i + 1, j + 1, hi, hj, e =>
      have hi : i < l.length := by simpa using hi
      have hj : j < l.length := by simpa using hj
      exact congrArg (· + 1) (nd_inj hn.2 hi hj e)
theorem mem_left {l : Wd} : l ∈ leftO names most h ↔ l ∈ shortOf names most ∧ does h l = false := by
  unfold leftO
  rw [List.mem_reverse, List.mem_filter, Bool.not_eq_true']
theorem left_len (c : Case names most h) : (leftO names most h).length ≤ 15 := by
  unfold leftO
  rw [List.length_reverse]
  exact Nat.le_trans (List.length_filter_le ..) c.few
theorem left_covers (c : Case names most h) : Covers (leftO names most h) (undone OStr (shortOf names most) names h) := fun l hl => by
  obtain ⟨h1, h2⟩ := mem_left.mp hl
  obtain ⟨U, hU, hs⟩ := undone_wide c.ground (mem_shortOf.mp h1).2 h2
  exact ⟨U, hU, (isPart_iff l U).mpr (hs l h1 (List.Sublist.refl l))⟩
theorem cover_spec (c : Case names most h) : (∀ x ∈ coverO names most h, x ∈ undone OStr (shortOf names most) names h) ∧ Covers (leftO names most h) (coverO names most h) ∧
    ∀ C : List Wd, (∀ x ∈ C, x ∈ undone OStr (shortOf names most) names h) → Covers (leftO names most h) C → (coverO names most h).length ≤ C.length :=
  cover_ok _ 15 _ (left_len c) (left_covers c)
theorem cover_undone (c : Case names most h) {x : Wd} (hx : x ∈ coverO names most h) : does h x = false ∧ ∀ y ∈ x, y ∈ names := undone_mem c.ground ((cover_spec c).1 x hx)
theorem h_names (c : Case names most h) {x : Wd} (hx : x ∈ h) : ∀ y ∈ x, y ∈ names := (mem_shortOf.mp (c.sub x hx)).2
theorem paper_names (c : Case names most h) {x : Wd} (hx : x ∈ paperO names most h) : ∀ y ∈ x, y ∈ names := by
  rcases List.mem_append.mp hx with hx | hx
  · exact h_names c hx
  · exact (cover_undone c hx).2
theorem paper_yes (c : Case names most h) : (paperO names most h).filter (fun l => does h l) = h := by
  unfold paperO
  rw [List.filter_append, List.filter_eq_self.mpr fun w hw => does_mem hw, List.filter_eq_nil_iff.mpr fun x hx => by rw [(cover_undone c hx).1]; exact Bool.false_ne_true, List.append_nil]
def fd0 (names : List Str) (most : Nat) : Fd := ⟨names, most, []⟩
theorem hid0 (c : Case names most h) : Hid h (fd0 names most) := ⟨c.base, c.sub, c.nd, fun _ z => nomatch z⟩
abbrev after (names : List Str) (most : Nat) (h : List Wd) (ls : List Wd) : Fd := asked h (fd0 names most) ls
theorem after_hid (c : Case names most h) (ls : List Wd) : Hid h (after names most h ls) := asked_hid ls (hid0 c)
theorem after_short (ls : List Wd) : (after names most h ls).short = shortOf names most := by
  obtain ⟨h1, h2⟩ := asked_names (h := h) ls (f := fd0 names most)
  show shortOf _ _ = _
  rw [h1, h2]
  rfl
theorem after_mem {ls : List Wd} {a : AskT} : a ∈ (after names most h ls).asks ↔ a.1 ∈ ls ∧ a.2 = does h a.1 := by
  rw [asked_mem]
  exact ⟨fun x => x.elim (fun y => nomatch y) id, .inr⟩
theorem one_of {b : List Wd} {w : Wd} (hn : b.Nodup) (hw : w ∈ b) (hall : ∀ r ∈ b, r = w) : b = [w] := by
  match b, hw, hall, hn with
  | [v], _, hall, _ => rw [hall v List.mem_cons_self]
  | v :: u :: r, _, hall, hn =>
    have e1 := hall v List.mem_cons_self
    have e2 := hall u (List.mem_cons_of_mem _ List.mem_cons_self)
    rw [List.nodup_cons] at hn
    exact absurd (by rw [e1, e2]; exact List.mem_cons_self) hn.1
/-- any log list that holds the base and covers what is left teaches -/
theorem paper_taught (c : Case names most h) : Taught h (after names most h (paperO names most h)) := by
  have H := after_hid c (paperO names most h)
  have hneg : ∀ l ∈ (after names most h (paperO names most h)).short, does h l = false → ∃ a ∈ (after names most h (paperO names most h)).asks, a.2 = false ∧ l.Sublist a.1 := by
    intro l hl hd
    rw [after_short] at hl
    obtain ⟨x, hx, p⟩ := (cover_spec c).2.1 l (mem_left.mpr ⟨hl, hd⟩)
    have hu := (cover_undone c hx).1
    exact ⟨(x, false), after_mem.mpr ⟨List.mem_append_right _ hx, hu.symm⟩, rfl, (isPart_iff l x).mp p⟩
  refine ⟨fun w hw => ?_, hneg⟩
  refine ⟨(w, true), after_mem.mpr ⟨List.mem_append_left _ hw, (does_mem hw).symm⟩, rfl, one_of ((rows_nd H).filter _) (parts_iff.mpr ⟨H.rows hw, List.Sublist.refl w⟩) fun r hr => ?_⟩
  obtain ⟨h1, h2⟩ := parts_iff.mp hr
  have hd : does h r = true := by
    cases e : does h r with
    | true => rfl
    | false =>
      obtain ⟨a, ha, e2, s⟩ := hneg r (rows_sub _ h1) e
      exact absurd s ((rows_iff.mp h1).2 a ha e2)
  obtain ⟨v, hv, s⟩ := (does_iff h r).mp hd
  have : v = w := c.base.anti v hv w hw (s.trans h2)
  rw [this] at s
  exact sub_anti h2 s
theorem paper_found (c : Case names most h) : (after names most h (paperO names most h)).found = some h := (after_hid c _).found_of (paper_taught c)
/-- h's words each have their own ask -/
theorem pos_count {f : Fd} (hb : h.Nodup) (t : ∀ w ∈ h, ∃ a ∈ f.asks, a.2 = true ∧ partsIn f.rows a.1 = [w]) : h.length ≤ (f.asks.filter fun a => a.2).length := by
  have hc : ∀ w : Wd, ∃ a : AskT, w ∈ h → (a ∈ f.asks ∧ a.2 = true ∧ partsIn f.rows a.1 = [w]) := fun w => by
    rcases Classical.em (w ∈ h) with z | z
    · obtain ⟨a, x⟩ := t w z
      exact ⟨a, fun _ => x⟩
    · exact ⟨([], false), fun q => absurd q z⟩
  let g : Wd → AskT := fun w => (hc w).choose
  have hg : ∀ w ∈ h, g w ∈ f.asks ∧ (g w).2 = true ∧ partsIn f.rows (g w).1 = [w] := fun w hw => (hc w).choose_spec hw
  have hn : (h.map g).Nodup := by
    have : ∀ l : List Wd, (∀ w ∈ l, w ∈ h) → l.Nodup → (l.map g).Nodup := by
      intro l
      induction l with
      | nil => intro _ _; exact List.nodup_nil
      | cons w l ih =>
        intro hm hl
        rw [List.nodup_cons] at hl
        rw [List.map_cons, List.nodup_cons]
        refine ⟨fun q => ?_, ih (fun x hx => hm x (List.mem_cons_of_mem _ hx)) hl.2⟩
        obtain ⟨v, hv, e⟩ := List.mem_map.mp q
        have e1 := (hg v (hm v (List.mem_cons_of_mem _ hv))).2.2
        have e2 := (hg w (hm w List.mem_cons_self)).2.2
        rw [e, e2] at e1
        have : w = v := (List.cons.inj e1).1
        rw [← this] at hv
        exact hl.1 hv
    exact this h (fun _ x => x) hb
  have := List.Nodup.length_le_of_subset hn (l₂ := f.asks.filter fun a => a.2) fun x hx => by
    obtain ⟨w, hw, rfl⟩ := List.mem_map.mp hx
    obtain ⟨h1, h2, _⟩ := hg w hw
    exact List.mem_filter.mpr ⟨h1, h2⟩
  rwa [List.length_map] at this
theorem split_len (as : List AskT) : (as.filter fun a => a.2).length + (as.filter fun a => !a.2).length = as.length := by
  induction as with
  | nil => rfl
  | cons a as ih =>
    rw [List.filter_cons, List.filter_cons]
    cases a.2 <;> simp <;> omega
/-- what teaches is not shorter than the paper -/
theorem paper_least (c : Case names most h) {f : Fd} (H : Hid h f) (hs : f.short = shortOf names most) (hn : ∀ a ∈ f.asks, ∀ x ∈ a.1, x ∈ names) (t : Taught h f) : (paperO names most h).length ≤ f.asks.length := by
  have h1 := pos_count (base_nodup OStr c.base) t.pos
  have hc : ∀ a : AskT, ∃ U : Wd, (a ∈ f.asks ∧ a.2 = false) → (U ∈ undone OStr (shortOf names most) names h ∧ ∀ l ∈ shortOf names most, l.Sublist a.1 → l.Sublist U) := fun a => by
    rcases Classical.em (a ∈ f.asks ∧ a.2 = false) with z | z
    · have hd : does h a.1 = false := by rw [← H.hon a z.1]; exact z.2
      obtain ⟨U, hU, hs⟩ := undone_wide c.ground (hn a z.1) hd
      exact ⟨U, fun _ => ⟨hU, hs⟩⟩
    · exact ⟨[], fun q => absurd q z⟩
  let g : AskT → Wd := fun a => (hc a).choose
  have hg : ∀ a ∈ f.asks, a.2 = false → (g a ∈ undone OStr (shortOf names most) names h ∧ ∀ l ∈ shortOf names most, l.Sublist a.1 → l.Sublist (g a)) := fun a ha e => (hc a).choose_spec ⟨ha, e⟩
  have h2 := (cover_spec c).2.2 ((f.asks.filter fun a => !a.2).map g) (fun x hx => by
    obtain ⟨a, ha, rfl⟩ := List.mem_map.mp hx
    obtain ⟨ha1, ha2⟩ := List.mem_filter.mp ha
    exact (hg a ha1 (by simpa using ha2)).1) fun l hl => by
    obtain ⟨hl1, hl2⟩ := mem_left.mp hl
    obtain ⟨a, ha, e, s⟩ := t.neg l (by rw [hs]; exact hl1) hl2
    exact ⟨g a, List.mem_map.mpr ⟨a, List.mem_filter.mpr ⟨ha, by rw [e]; rfl⟩, rfl⟩, (isPart_iff l _).mpr ((hg a ha e).2 l hl1 s)⟩
  rw [List.length_map] at h2
  have h3 := split_len f.asks
  unfold paperO
  rw [List.length_append]
  omega
/-- the paper without one of its logs does not teach -/
theorem paper_need (c : Case names most h) {k : Nat} (hk : k < (paperO names most h).length) : (after names most h ((paperO names most h).take k ++ (paperO names most h).drop (k + 1))).found = none := by
  have H := after_hid c ((paperO names most h).take k ++ (paperO names most h).drop (k + 1))
  rcases H.found_or with q | q
  · exact q
  exfalso
  have t := H.taught q
  have e : (paperO names most h).take k ++ (paperO names most h).drop (k + 1) = (paperO names most h).eraseIdx k := (List.eraseIdx_eq_take_drop_succ ..).symm
  rw [e] at t q
  rcases Nat.lt_or_ge k h.length with z | z
  · have e2 : (paperO names most h).eraseIdx k = h.eraseIdx k ++ coverO names most h := List.eraseIdx_append_of_lt_length z _
    rw [e2] at t
    obtain ⟨a, ha, ea, p⟩ := t.pos h[k] (List.getElem_mem z)
    obtain ⟨ha1, ha2⟩ := after_mem.mp ha
    rw [ea] at ha2
    have hw : h[k] ∈ partsIn (after names most h (h.eraseIdx k ++ coverO names most h)).rows a.1 := by rw [p]; exact List.mem_cons_self
    have hs := (parts_iff.mp hw).2
    rcases List.mem_append.mp ha1 with m | m
    · have hm : a.1 ∈ h := List.mem_of_mem_eraseIdx m
      have hq := c.base.anti _ (List.getElem_mem z) _ hm hs
      rw [← hq] at m
      have hnd := base_nodup OStr c.base
      obtain ⟨i, hi, hik, e⟩ := List.mem_eraseIdx_iff_getElem.mp m
      exact hik (nd_inj hnd hi z e)
    · rw [(cover_undone c m).1] at ha2
      cases ha2
  · have e2 : (paperO names most h).eraseIdx k = h ++ (coverO names most h).eraseIdx (k - h.length) := List.eraseIdx_append_of_length_le z _
    rw [e2] at t
    have hk2 : k - h.length < (coverO names most h).length := by
      unfold paperO at hk
      rw [List.length_append] at hk
      omega
    have h3 := (cover_spec c).2.2 ((coverO names most h).eraseIdx (k - h.length)) (fun x hx => (cover_spec c).1 x (List.mem_of_mem_eraseIdx hx)) fun l hl => by
      obtain ⟨hl1, hl2⟩ := mem_left.mp hl
      obtain ⟨a, ha, e, s⟩ := t.neg l (by rw [after_short]; exact hl1) hl2
      obtain ⟨ha1, ha2⟩ := after_mem.mp ha
      rw [e] at ha2
      rcases List.mem_append.mp ha1 with m | m
      · rw [does_mem m] at ha2
        cases ha2
      · exact ⟨a.1, m, (isPart_iff l _).mpr s⟩
    rw [List.length_eraseIdx_of_lt hk2] at h3
    omega
end
end Mk
/-! ## MkW10 -/
set_option autoImplicit true
set_option Elab.async false
set_option linter.all false
set_option maxRecDepth 100000
set_option maxHeartbeats 4000000
namespace Mk
open PySem PySem.Spec PyProof.Rows L2 MkM
theorem Grow.then {B B' : Addr → Prop} {G H G1 H1 G2 H2 : Hp} (x : Grow B G H G1 H1) (y : Grow B' G1 H1 G2 H2) (hb : ∀ a, B' a → B a ∨ H a = none) : Grow B G H G2 H2 where
  g := x.g.trans y.g
  h := fun a o b e => y.h a o (fun z => (hb a z).elim b fun q => by rw [q] at e; cases e) (x.h a o b e)
  s := y.s
  n := fun a o e => by
    rcases y.n a o e with z | z
    · refine .inl ?_
      cases q : H a with
      | none => rfl
      | some u => exact absurd z (x.t a (by rw [q]; exact fun w => nomatch w))
    · exact x.n a o z
  t := fun a e => y.t a (x.t a e)
/-- a finder stands at a -/
structure FinAt (K : PySem.W.Frag) (a : Addr) (f : Fd) (G H : Hp) : Prop where
  ex : G a = none ∧ ∃ dx fs, H a = some (.ins (FC K) dx fs) ∧ FD K f fs G
theorem enc_optBs : Enc optBs 2 where
  pl
    | none => rfl
    | some b => (enc_bs true).pl b
  dp
    | none => by simp [optBs, PyData.depth]
    | some b => (enc_bs true).dp b
  eq
    | none, none => by simp [optBs, PyData.eqv]
    | none, some b => by
      show PyData.eqv .none (.tuple _) = true ↔ _
      simp [PyData.eqv]
    | some b, none => by
      show PyData.eqv (.tuple _) .none = true ↔ _
      simp [PyData.eqv]
    | some b, some c => by
      show PyData.eqv (bsD true b) (bsD true c) = true ↔ _
      rw [(enc_bs true).eq]
      simp
section
variable {c : Ctx} {K : PySem.W.Frag} {σ : St} {G G' H G1 H1 : Hp} {f : Fd} {a : Addr} {i : Nat} {tz : TS} {D : Ends} {B : Addr → Prop} {te : TE}
theorem FinAt.grow (m : FinAt K a f G H) (nb : ¬ B a) (x : Grow B G H G1 H1) : FinAt K a f G1 H1 := by
  obtain ⟨h0, dx, fs, h1, h2⟩ := m.ex
  exact ⟨x.none1 (by rw [h1]; exact fun z => nomatch z) h0, dx, fs, x.h _ _ nb h1, h2.mono x.g⟩
theorem FinAt.grow0 (m : FinAt K a f G H) (x : Grow B0 G H G1 H1) : FinAt K a f G1 H1 := m.grow (fun z => z) x
/-- Finder(names, most) -/
theorem make_core {names : List Str} {most : Nat} {E : XK} {t : TA} {Q : VK} (h : EA c K t σ G (dats [wd names, .int (most : Int)])) (s : Same G H) (j : c.J H) (h1 : names.length ≤ 3) (h2 : most ≤ 3)
    (k : ∀ a G1 H1, H a = none → Grow c.B G H G1 H1 → c.J H1 → FinAt K a ⟨names, most, []⟩ G1 H1 → Q (.ref a) H1) : tMake (FC K) (spInit K) [] E t σ H Q :=
  h G H (Same.refl G) s j _ fun vs G1 H1 g1 j1 p1 x dx hx hdx ne => by
    obtain ⟨vn, vm, rfl, dn, dm⟩ := dpa_two (agOk_dats p1)
    have n1 : G1 x = none := g1.s.free hx
    have nd1 : G1 dx = none := g1.s.free hdx
    have g2 : Grow c.B G1 H1 G1 (upd (upd H1 dx (.own x)) x (.ins (FC K) dx [])) := ((Grow.refl g1.s).mut (.inl hdx) nd1).mut (.inl hx) n1
    have hx0 : H x = none := by
      cases e : H x with
      | none => rfl
      | some u => exact absurd hx (g1.t x (by rw [e]; exact fun z => nomatch z))
    have j2 : c.J (upd (upd H1 dx (.own x)) x (.ins (FC K) dx [])) := c.new (c.new j1 hdx) (by rw [upd_ne (Ne.symm ne)]; exact hx)
    refine ⟨x, dx, G1, vn, vm, names, most, by rw [List.append_nil], g2.s, n1, upd_same, dn, dm, h1, h2, fun fs G3 H3 g3 n3 x3 d3 => ⟨rfl, ?_⟩⟩
    refine k x G3 H3 hx0 ((g1.trans g2).then g3 fun b e => .inr (by rw [e]; exact hx0)) (c.up _ _ j2 fun b o pb q => g3.h b o (fun e => ?_) q) ⟨n3, dx, fs, x3, d3⟩
    have e : b = x := e
    rw [e] at pb
    exact c.notP j1 hx pb
/-- x = Finder(names, most) and what follows -/
theorem q_make {names : List Str} {most : Nat} {E : XK} {t : TA} (h : EA c K t σ G (dats [wd names, .int (most : Int)])) (s : Same G H) (j : c.J H) (h1 : names.length ≤ 3) (h2 : most ≤ 3)
    (k : ∀ a G1 H1, H a = none → Grow c.B G H G1 H1 → c.J H1 → FinAt K a ⟨names, most, []⟩ G1 H1 → tz D (σ.set i (some (.ref a))) H1) : tSeq (tAsg (tMake (FC K) (spInit K) [] E t) (gName i)) tz D σ H := make_core (Q := fun x H1 => tz D (σ.set i (some x)) H1) h s j h1 h2 k
/-- finder.answered(l, b) -/
theorem st_answeredB {l : Wd} {b : Bool} {E : XK} {t : TA} (hi : σ[i]? = some (some (.ref a))) (F : FinAt K a f G H) (h : ∀ fs, FD K f fs G → EA (cF c K a fs) K t σ G (dats [wd l, .bool b])) (s : Same G H) (j : c.J H) (nP : ¬ c.P a) (ho : f.Ok) (ho' : (f.put l b).Ok) (hl : ∀ x ∈ l, x ∈ f.names) (hne : [] ∉ (f.put l b).near) {Q : VK}
    (k : ∀ G1 H1, (∀ (B : Addr → Prop) G0 H0, (∀ b, c.B b → B b) → Grow B G0 H0 G H → H0 a = none → Grow B G0 H0 G1 H1) → (∀ a' o, a' ≠ a → ¬ c.B a' → H a' = some o → H1 a' = some o ∧ (G a' = none → G1 a' = none)) → c.J H1 → FinAt K a (f.put l b) G1 H1 → Same G G1 → Same G1 H1 → Q .non H1) : tMeth (FC K) "answered" (spAnswered K) [] E (tVar i) t σ H Q := by
  obtain ⟨n0, dx, fs, hx, hd⟩ := F.ex
  refine ⟨.ref a, hi, a, dx, fs, rfl, hx, hd.meths (by decide +kernel), h fs hd G H (Same.refl G) s ⟨j, dx, hx⟩ _ fun vs G1 H1 g1 j1 p1 => ?_⟩
  have g1 : Grow c.B G H G1 H1 := g1
  obtain ⟨v1, v2, rfl, d1, d2⟩ := dpa_two (agOk_dats p1)
  have nB : ¬ c.B a := fun z => nP (c.bp a z)
  have x1 := g1.h _ _ nB hx
  have n1 : G1 a = none := g1.none1 (by rw [hx]; exact fun z => nomatch z) n0
  refine ⟨a, dx, fs, G1, v1, v2, f, l, b, by rw [List.append_nil], g1.s, n1, x1, hd.mono g1.g, d1, d2, ho, ho', hl, hne, fun fs' G2 H2 g2 n2 x2 d3 => ?_⟩
  refine k G2 H2 (fun B G0 H0 hB x hn => (x.then g1 fun b e => .inl (hB b e)).then g2 fun b e => .inr (by rw [show b = a from e]; exact hn)) (fun a' o ne nb ho => ?_) (c.up _ _ j1.1 fun b o pb q => g2.h b o (fun e => nP (by rw [← (show b = a from e)]; exact pb)) q) ⟨n2, dx, fs', x2, d3⟩ (g1.g.trans g2.g) g2.s
  have q := g1.h _ _ nb ho
  exact ⟨g2.h _ _ (fun e => ne e) q, fun z => g2.none1 (by rw [q]; exact fun z => nomatch z) (g1.none1 (by rw [ho]; exact fun z => nomatch z) z)⟩
theorem st_answered {l : Wd} {b : Bool} {E : XK} {t : TA} (hi : σ[i]? = some (some (.ref a))) (F : FinAt K a f G H) (h : ∀ fs, FD K f fs G → EA (cF c K a fs) K t σ G (dats [wd l, .bool b])) (s : Same G H) (j : c.J H) (nP : ¬ c.P a) (ho : f.Ok) (ho' : (f.put l b).Ok) (hl : ∀ x ∈ l, x ∈ f.names) (hne : [] ∉ (f.put l b).near) {Q : VK}
    (k : ∀ G1 H1, (∀ G0 H0, Grow c.B G0 H0 G H → H0 a = none → Grow c.B G0 H0 G1 H1) → (∀ a' o, a' ≠ a → ¬ c.B a' → H a' = some o → H1 a' = some o ∧ (G a' = none → G1 a' = none)) → c.J H1 → FinAt K a (f.put l b) G1 H1 → Same G G1 → Same G1 H1 → Q .non H1) : tMeth (FC K) "answered" (spAnswered K) [] E (tVar i) t σ H Q :=
  st_answeredB hi F h s j nP ho ho' hl hne fun G1 H1 gr => k G1 H1 fun G0 H0 x hn => gr c.B G0 H0 (fun _ z => z) x hn
end
theorem put_ok {f : Fd} {l : Wd} {b : Bool} (h : f.Ok) (hl : f.asks.length ≤ 450) : (f.put l b).Ok := ⟨h.names, h.most, by have := put_len (f := f) (l := l) (b := b); omega⟩
section
variable {names : List Str} {most : Nat} {h : List Wd}
theorem asked_snoc {ls : List Wd} {l : Wd} {f : Fd} : asked h f (ls ++ [l]) = (asked h f ls).put l (does h l) := by
  unfold asked
  rw [List.foldl_append]
  rfl
theorem after_ok (c : Case names most h) {ls : List Wd} (hl : ls.length ≤ 500) : (after names most h ls).Ok := by
  obtain ⟨h1, h2⟩ := asked_names (h := h) ls (f := fd0 names most)
  have h3 := asked_len (h := h) ls (f := fd0 names most)
  exact ⟨by rw [h1]; exact c.n3, by rw [h2]; exact c.m3, Nat.le_trans h3 (by show 0 + ls.length ≤ 500; omega)⟩
theorem case_LB (c : Case names most h) : LB h := by
  have h1 : h.length ≤ (shortOf names most).length := List.Nodup.length_le_of_subset (base_nodup OStr c.base) c.sub
  have h2 := c.few
  refine ⟨by omega, fun l hl => ?_⟩
  have := (mem_shortOf.mp (c.sub l hl)).1
  have := c.m3
  show l.length ≤ 100000
  omega
theorem case_len (c : Case names most h) : h.length ≤ 15 := Nat.le_trans (List.Nodup.length_le_of_subset (base_nodup OStr c.base) c.sub) c.few
theorem paper_len (c : Case names most h) : (paperO names most h).length ≤ 30 := by
  have := case_len c
  have := cover_len (undone OStr (shortOf names most) names h) 15 (leftO names most h)
  unfold paperO coverO
  rw [List.length_append]
  omega
end
section
variable {P : Program} {w : World} {K : PySem.W.Frag} {mg : Str → Option Value} {base : Heap}
/-! ### paper -/
-- slots: 0 names, 1 most, 2 base*, 3 short, 4 left, 5 log
abbrev N_paper : List Str := ["names", "most", "base", "short", "left", "log"]
theorem sc_paper : FnScope N_paper ["names", "most", "base"] (defScope st_paper) := ⟨rfl, rfl, rfl, by decide +kernel, rfl, by decide +kernel, by decide +kernel⟩
theorem bd_paper : BindOk "paper" "paper" st_paper ["names", "most", "base"] := fun _ _ _ _ _ _ us hl => match us, hl with | [_, _, _], _ => rfl
abbrev spPaper (K : PySem.W.Frag) : Sp := spP K (fun i : List Str × Nat × List Wd => [wd i.1, .int (i.2.1 : Int), bsD true i.2.2]) (fun i => Case i.1 i.2.1 i.2.2) (fun i => bsD true (paperO i.1 i.2.1 i.2.2))
theorem ok_paper (T : Txt K mg) : Callee P w K mg base 19 "paper" ["names", "most", "base"] (spPaper K) := by
  have C_short_logs : Callee P w K mg base 1 "short_logs" ["names", "most"] (spShort K) := ok_short_logs T
  have C_does : Callee P w K mg base 3 "does" ["base", "log"] (spDoes K) := ok_does T
  have C_tupled : Callee P w K mg base 3 "tupled" ["value"] (spTupB K) := ok_tupB T
  have C_undone_logs : Callee P w K mg base 6 "undone_logs" ["base", "names", "short"] (spUndone K) := ok_undone_logs T
  have C_fewest_cover : Callee P w K mg base 18 "fewest_cover" ["left", "rows"] (spCover K 15) := ok_cover T 15 (by omega)
  refine callee_of T.f_paper T.g_paper sc_paper bd_paper (spP_len fun _ => rfl) fun cdv A outer s H vs Q E hr h => ?_
  obtain ⟨⟨names, most, h⟩, G, hs, ha, c, k⟩ := h
  have c : Case names most h := c
  obtain ⟨v1, v2, v3, rfl, d1, d2, d3⟩ := dpa_three ha
  have hfew := c.few
  have hlen := case_len c
  have hlw : ∀ l ∈ shortOf names most, Lw l := fun l hl => by
    have := (mem_shortOf.mp hl).1
    have := c.m3
    show l.length ≤ 100000
    omega
  refine ⟨_, (pss_cons (ps_set (i := 3) sc_paper.nd rfl (by first | exact Or.inl rfl | exact Or.inr rfl) (pe_callC C_short_logs hr (by omega) rfl (pa_cons (pe_callTy (T := "tuple") (k_tuple (K := K) rfl) (by rfl) T.b_tuple (by decide +kernel) (pa_cons (pv 0) pa_nil)) (pa_cons (pv 1) pa_nil))))
        (pss_cons (ps_set (i := 4) sc_paper.nd rfl (by first | exact Or.inl rfl | exact Or.inr rfl) (k_revL (K := K) rfl (pe_lc (own := [("log", 5)]) rfl sc_paper.nd (k_pi_sq (K := K) rfl (pv 3)) (blkOk_by (by kernel_rfl)) (fun _ _ _ _ _ => (pg_name (i := 5) sc_paper.nd rfl (by first | exact Or.inl rfl | exact Or.inr rfl))) (fun _ _ _ _ _ => pts_one (pt_not (pt_val (pe_callC C_does hr (by omega) rfl (pa_cons (pv 2) (pa_cons (pv 5) pa_nil)))))) (fun _ _ _ _ _ => (pv 5)))))
        (pss_one (ps_ret (pe_tup (k_star (K := K) rfl (pe_callC C_tupled hr (by omega) rfl (pa_cons (pv 2) pa_nil)) (k_star (K := K) rfl (pe_callC C_fewest_cover hr (by omega) rfl (pa_cons (pv 4) (pa_cons (pe_callC C_undone_logs hr (by omega) rfl (pa_cons (pv 2) (pa_cons (pe_callTy (T := "tuple") (k_tuple (K := K) rfl) (by rfl) T.b_tuple (by decide +kernel) (pa_cons (pv 0) pa_nil)) (pa_cons (pv 3) pa_nil)))) pa_nil))) pa_nil))))))), ?_⟩
  refine q_asg (c := c0) (K := K) (G := G) (φ := is (bsD false (shortOf names most))) (ev_call (names, most) (ea_cons (ev_tupleT (ev_var rfl d1)) (ea_cons (ev_var rfl d2) ea_nil)) ⟨c.n3, c.m3⟩) hs trivial fun v4 d4 G1 H1 g1 _ dv4 e => ?_
  subst e
  refine q_asg (c := c0) (K := K) (G := G1) (φ := is (bsD false (leftO names most h))) ((ev_rev (ev_pick wd (shortOf names most) (fun l => !does h l) wd (es_L (ev_var rfl dv4)) (by omega) (fun _ => rfl) (fun l G2 v hl s2 dv => ?_) fun l G2 v hl s2 dv _ => ev_var rfl dv)).to ?_) g1.s trivial fun v5 d5 G2 H2 g2 _ dv5 e => ?_
  · exact et_not (et_B (ev_call ((true, h), l) (ea_cons (ev_var rfl (dp_mono (g1.g.trans s2) _ _ d3)) (ea_cons (ev_var rfl dv) ea_nil)) (by show h.length ≤ 100000; omega)))
  · unfold leftO
    rw [← List.map_reverse]
    rfl
  subst e
  have g12 := g1.trans g2
  have d1' := dp_mono g12.g _ _ d1
  have d3' := dp_mono g12.g _ _ d3
  refine st_ret (c := c0) (K := K) (G := G2) (φ := is (bsD true (paperO names most h))) ((ev_tupX (ex_star (t := true) (es := h.map wd) (ev_call (true, h) (ea_cons (ev_var rfl d3') ea_nil) (case_LB c)) (ex_star (t := true) (es := (coverO names most h).map wd) (ev_call (leftO names most h, undone OStr (shortOf names most) names h) (ea_cons (ev_var rfl dv5) (ea_cons (ev_call (h, names, shortOf names most) (ea_cons (ev_var rfl d3') (ea_cons (ev_tupleT (ev_var rfl d1')) (ea_cons (ev_var rfl (dp_mono g2.g _ _ dv4)) ea_nil))) ⟨c.ground, hlw⟩) ea_nil)) ⟨left_len c, ?_, left_covers c⟩) ex_nil)) ?_).to ?_) g2.s trivial fun v d G3 H3 g3 _ dv e => by subst e; exact k v G3 H3 (g12.trans g3) dv
  · have := paper_len c
    unfold paperO at this
    rw [List.length_append] at this
    rw [List.length_append, List.length_append, List.length_map, List.length_map, List.length_nil]
    omega
  · show PyData.tuple _ = .tuple ((h ++ coverO names most h).map wd)
    rw [List.append_nil, List.map_append]
  · show (undone OStr (shortOf names most) names h).length ≤ 100000
    unfold undone widest
    rw [List.length_map]
    have h1 := good_len c.ground (all_end c.ground).1
    have h2 := List.length_filter_le (fun e => !((allRows OStr (shortOf names most) names h).any fun f => !decide (e.lot = f.lot) && e.lot.all fun l => decide (l ∈ f.lot))) (allRows OStr (shortOf names most) names h)
    omega
/-! ### shows -/
-- slots: 0 names, 1 most, 2 base, 3 logs, 4 finder, 5 log
abbrev N_shows : List Str := ["names", "most", "base", "logs", "finder", "log"]
theorem sc_shows : FnScope N_shows ["names", "most", "base", "logs"] (defScope st_shows) := ⟨rfl, rfl, rfl, by decide +kernel, rfl, by decide +kernel, by decide +kernel⟩
theorem bd_shows : BindOk "shows" "shows" st_shows ["names", "most", "base", "logs"] := fun _ _ _ _ _ _ us hl => match us, hl with | [_, _, _, _], _ => rfl
abbrev spShows (K : PySem.W.Frag) : Sp := spP K (fun i : List Str × Nat × List Wd × List Wd => [wd i.1, .int (i.2.1 : Int), bsD true i.2.2.1, bsD true i.2.2.2]) (fun i => Case i.1 i.2.1 i.2.2.1 ∧ i.2.2.2.length ≤ 400 ∧ ∀ l ∈ i.2.2.2, ∀ x ∈ l, x ∈ i.1) (fun i => .bool (decide ((after i.1 i.2.1 i.2.2.1 i.2.2.2).found = some i.2.2.1)))
theorem ok_shows (T : Txt K mg) : Callee P w K mg base 7 "shows" ["names", "most", "base", "logs"] (spShows K) := by
  have C_does : Callee P w K mg base 3 "does" ["base", "log"] (spDoes K) := ok_does T
  have C_tupled : Callee P w K mg base 3 "tupled" ["value"] (spTupB K) := ok_tupB T
  have C_F_init : MkCallee P w K mg base 2 (FC K) ["self", "names", "most"] (spInit K) := ok_F_init T
  have C_F_answered : MCallee P w K mg base 5 (FC K) "answered" ["self", "log", "done"] (spAnswered K) := ok_F_answered T
  have C_F_found : MCallee P w K mg base 6 (FC K) "found" ["self"] (spFound K) := ok_F_found T
  refine callee_of T.f_shows T.g_shows sc_shows bd_shows (spP_len fun _ => rfl) fun cdv A outer s H vs Q E hr hh => ?_
  obtain ⟨⟨names, most, h, logs⟩, G, hs, ha, ⟨c, hll, hlx⟩, k⟩ := hh
  have c : Case names most h := c
  have hll : logs.length ≤ 400 := hll
  have hlx : ∀ l ∈ logs, ∀ x ∈ l, x ∈ names := hlx
  have hlen := case_len c
  obtain ⟨v1, v2, v3, v4, rfl, d1, d2, d3, d4⟩ := dpa_four ha
  refine ⟨_, (pss_cons (ps_set (i := 4) sc_shows.nd rfl (by first | exact Or.inl rfl | exact Or.inr rfl) (pe_makeC C_F_init hr (by omega) rfl T.g_Finder (pa_cons (pv 0) (pa_cons (pv 1) pa_nil))))
        (pss_cons (ps_for PassesOwn.never rfl (k_pi_sq (K := K) rfl (pv 3)) (pg_name (i := 5) sc_shows.nd rfl (by first | exact Or.inl rfl | exact Or.inr rfl)) (pss_one (ps_expr (pe_methC C_F_answered (pv 4) T.cl hr (by omega) (pa_cons (pv 5) (pa_cons (pe_callC C_does hr (by omega) rfl (pa_cons (pv 2) (pa_cons (pv 5) pa_nil))) pa_nil))))))
        (pss_one (ps_ret (pe_cmpR (k_eqP (K := K) rfl (Rm65 hr)) (pe_methC0 C_F_found (pv 4) T.cl hr (by omega)) (pe_callC C_tupled hr (by omega) rfl (pa_cons (pv 2) pa_nil)) (nomark _)))))), ?_⟩
  refine q_make (c := c0) (K := K) (G := G) (names := names) (most := most) (ea_cons (ev_var rfl d1) (ea_cons (ev_var rfl d2) ea_nil)) hs trivial c.n3 c.m3 fun a G1 H1 hna g1 _ F1 => ?_
  refine q_forI (c := c0) (G := G1) wd logs (es_T (ev_var rfl (dp_mono g1.g _ _ d4))) g1.s trivial
    (fun i σ' G' H' => Grow B0 G H G' H' ∧ FinAt K a (after names most h (logs.take i)) G' H' ∧ ∃ y5, σ' = [some v1, some v2, some v3, some v4, some (.ref a), y5])
    (fun G2 H2 g _ => ⟨Grow.trans g1 g, F1.grow0 g, none, rfl⟩) (fun i σ' G' H' q => q.1.s) ?_ ?_
  · rintro G0 hG i l σ' G' H' hl s0 ⟨g, F, y5, rfl⟩ v G2 H2 g2 dv
    refine ⟨_, tg_name, ?_⟩
    have F2 := F.grow0 g2
    have hlt : (logs.take i).length ≤ 400 := by
      rw [List.length_take]
      omega
    have hok := after_ok c (ls := logs.take i) (by omega)
    have hid := after_hid c (logs.take i)
    have hasks : (after names most h (logs.take i)).asks.length ≤ 0 + (logs.take i).length := asked_len (h := h) (logs.take i) (f := fd0 names most)
    have hnm : (after names most h (logs.take i)).names = names := (asked_names (h := h) _ (f := fd0 names most)).1
    refine st_answered (c := c0) (l := l) (b := does h l) (Q := fun _ H1 => ∃ G'', Same G0 G'' ∧ _) rfl F2 (fun fs hfd => ea_cons (ev_var rfl dv) (ea_cons (ev_call ((true, h), l) (ea_cons (ev_var rfl (dp_mono (g.trans g2).g _ _ d3)) (ea_cons (ev_var rfl dv) ea_nil)) (by show h.length ≤ 100000; omega)) ea_nil)) g2.s trivial (fun z => z) hok (put_ok hok (by omega)) (fun x hx => by rw [hnm]; exact hlx l (List.mem_of_getElem? hl) x hx) (hid.put l).near_ne fun G3 H3 gr keep _ F3 s3 t3 => ?_
    refine ⟨G3, (s0.trans g2.g).trans s3, gr G H (g.trans g2) hna, ?_, some v, rfl⟩
    rw [take_succ' hl, after, asked_snoc]
    exact F3
  · rintro σ' G' H' sg ⟨g, F, y5, rfl⟩
    rw [List.take_length] at F
    obtain ⟨nF, dx, fs, hx, hfd⟩ := F.ex
    have hok := after_ok c (ls := logs) (by omega)
    refine st_ret (c := cF c0 K a fs) (K := K) (G := G') (φ := is (.bool (decide ((after names most h logs).found = some h)))) (ev_eqE enc_optBs (by omega) (ev_meth () rfl hfd hok (by decide +kernel) ea_nil trivial) (ev_call (true, h) (ea_cons (ev_var rfl (dp_mono g.g _ _ d3)) ea_nil) (case_LB c))) g.s ⟨trivial, dx, hx⟩ fun v d G3 H3 g3 _ dv e => by subst e; exact k v G3 H3 (Grow.trans g g3) dv
end
end Mk
/-! ## MkBox -/
set_option autoImplicit true
set_option Elab.async false
set_option linter.all false
set_option maxRecDepth 100000
set_option maxHeartbeats 4000000
namespace Mk
open PySem PySem.Spec PyProof.Rows L2
/-! ### the box that draws: its counter is at most N -/
def BoxAt (b : Addr) (N : Nat) (H : Hp) : Prop := ∃ x y z : Int, H b = some (.lst [.int x, .int y, .int z]) ∧ 0 ≤ z ∧ z ≤ N
theorem BoxAt.up {b : Addr} {N M : Nat} {H : Hp} (h : BoxAt b N H) (k : N ≤ M) : BoxAt b M H := by
  obtain ⟨x, y, z, h1, h2, h3⟩ := h
  exact ⟨x, y, z, h1, h2, by omega⟩
theorem BoxAt.same {b : Addr} {N : Nat} {H H' : Hp} (h : BoxAt b N H) (k : ∀ o, H b = some o → H' b = some o) : BoxAt b N H' := by
  obtain ⟨x, y, z, h1, h2⟩ := h
  exact ⟨x, y, z, k _ h1, h2⟩
theorem BoxAt.ne {b : Addr} {N : Nat} {H : Hp} (h : BoxAt b N H) : H b ≠ none := by
  obtain ⟨x, y, z, h1, h2⟩ := h
  rw [h1]
  exact fun z => nomatch z
abbrev LIM : Nat := 1000000000
/-- an expression that draws at most n times -/
def EvN (K : PySem.W.Frag) (b : Addr) (n : Nat) (te : TE) (σ : St) (G : Hp) (φ : PyData → Prop) : Prop := ∀ N G0 H, N + n ≤ LIM → Same G G0 → Same G0 H → G0 b = none → BoxAt b N H → ∀ Q : VK,
  (∀ v d G1 H1, Grow (fun a => a = b) G0 H G1 H1 → G1 b = none → BoxAt b (N + n) H1 → Dp K G1 v d → φ d → Q v H1) → te σ H Q
section
variable {c : Ctx} {K : PySem.W.Frag} {σ : St} {G G' H G0 H0 G1 H1 : Hp} {te ta tb tl : TE} {tt tu : TT} {φ ψ χ : PyData → Prop} {d e : PyData} {ds es : List PyData} {b : Addr} {n m : Nat}
theorem Grow.boxN (g : Grow (fun a => a = b) G H G1 H1) (h0 : G b = none) {N : Nat} (h : BoxAt b N H) : G1 b = none := g.none1 h.ne h0
/-- what draws nothing -/
theorem EvN.of (h : Ev c0 K te σ G φ) : EvN K b 0 te σ G φ := fun N G0 H hN s t h0 hb Q q => h G0 H s t trivial Q fun v d G1 H1 g1 _ d1 p1 =>
  q v d G1 H1 (Grow.wide g1) (Grow.boxN (Grow.wide g1) h0 hb) (hb.same fun o ho => g1.same _ _ ho) d1 p1
theorem EvN.up (h : EvN K b n te σ G φ) (k : n ≤ m) : EvN K b m te σ G φ := fun N G0 H hN s t h0 hb Q q => h N G0 H (by omega) s t h0 hb Q fun v d G1 H1 g1 n1 b1 d1 p1 => q v d G1 H1 g1 n1 (b1.up (by omega)) d1 p1
theorem EvN.mono (h : EvN K b n te σ G φ) (s : Same G G') : EvN K b n te σ G' φ := fun N G0 H hN s' t h0 hb Q q => h N G0 H hN (s.trans s') t h0 hb Q q
theorem EvN.imp (h : EvN K b n te σ G φ) (f : ∀ d, φ d → ψ d) : EvN K b n te σ G ψ := fun N G0 H hN s t h0 hb Q q => h N G0 H hN s t h0 hb Q fun v d G1 H1 g1 n1 b1 d1 p1 => q v d G1 H1 g1 n1 b1 d1 (f d p1)
/-- a def that draws -/
def spB (K : PySem.W.Frag) {ι : Type} (n : Nat) (args : ι → List PyData) (pre : ι → Prop) (Φ : ι → PyData → Prop) : Sp := fun vs H Q _ => ∃ b ws i G N, vs = .ref b :: ws ∧ Same G H ∧ G b = none ∧ BoxAt b N H ∧ N + n ≤ LIM ∧ DpAll K G ws (args i) ∧ pre i ∧
  ∀ v d G1 H1, Grow (fun a => a = b) G H G1 H1 → G1 b = none → BoxAt b (N + n) H1 → Dp K G1 v d → Φ i d → Q v H1
theorem spB_len {ι : Type} {args : ι → List PyData} {pre : ι → Prop} {Φ : ι → PyData → Prop} {k : Nat} (hn : ∀ i, (args i).length = k) : ∀ vs H Q E, spB K n args pre Φ vs H Q E → vs.length = k + 1 := by
  rintro vs H Q E ⟨b, ws, i, G, N, rfl, _, _, _, _, h, _⟩
  rw [List.length_cons, dpa_len h, hn]
/-- f(box, ..), what stands behind the box draws nothing -/
theorem evN_call {ι : Type} {args : ι → List PyData} {pre : ι → Prop} {Φ : ι → PyData → Prop} {E : XK} {t : TA} {j : Nat} (i : ι) (hj : σ[j]? = some (some (.ref b))) (h : EA c0 K t σ G (dats (args i))) (hp : pre i) : EvN K b n (tCall (spB K n args pre Φ) [] E (tCons (tVar j) t)) σ G (Φ i) :=
  fun N G0 H hN s tt h0 hb Q q => ⟨.ref b, hj, h G0 H s tt trivial _ fun vs G1 H1 g1 _ p1 => by
    have g1' : Grow (fun a => a = b) G0 H G1 H1 := Grow.wide g1
    refine ⟨b, vs, i, G1, N, by rw [List.append_nil], g1.s, Grow.boxN g1' h0 hb, hb.same fun o ho => g1.same _ _ ho, hN, agOk_dats p1, hp, fun v d G2 H2 g2 n2 b2 d2 p2 => q v d G2 H2 (g1'.trans g2) n2 b2 d2 p2⟩⟩
/-- .. of arguments not all told -/
theorem evN_callφ {ι : Type} {args : ι → List PyData} {pre : ι → Prop} {Φ : ι → PyData → Prop} {E : XK} {t : TA} {j : Nat} {as : List Ag} (hj : σ[j]? = some (some (.ref b))) (h : EA c0 K t σ G as) (hp : ∀ G1 vs, AgOk K as G1 vs → ∃ i, DpAll K G1 vs (args i) ∧ pre i ∧ ∀ d, Φ i d → χ d) : EvN K b n (tCall (spB K n args pre Φ) [] E (tCons (tVar j) t)) σ G χ :=
  fun N G0 H hN s tt h0 hb Q q => ⟨.ref b, hj, h G0 H s tt trivial _ fun vs G1 H1 g1 _ p1 => by
    have g1' : Grow (fun a => a = b) G0 H G1 H1 := Grow.wide g1
    obtain ⟨i, h1, h2, h3⟩ := hp G1 vs p1
    refine ⟨b, vs, i, G1, N, by rw [List.append_nil], g1.s, Grow.boxN g1' h0 hb, hb.same fun o ho => g1.same _ _ ho, hN, h1, h2, fun v d G2 H2 g2 n2 b2 d2 p2 => q v d G2 H2 (g1'.trans g2) n2 b2 d2 (h3 d p2)⟩⟩
/-- an operator -/
theorem evN_op {r : R2} (ha : EvN K b n ta σ G φ) (hb : EvN K b m tb σ G ψ) (hr : ∀ G1 H1 x y d e, Same G1 H1 → Dp K G1 x d → Dp K G1 y e → φ d → ψ e → ∀ Q : VK, (∀ z f, Dp K G1 z f → χ f → Q z H1) → r x y H1 Q) : EvN K b (n + m) (tOp r ta tb) σ G χ :=
  fun N G0 H hN s t h0 hbx Q q => ha N G0 H (by omega) s t h0 hbx _ fun x d G1 H1 g1 n1 b1 d1 p1 => hb (N + n) G1 H1 (by omega) (s.trans g1.g) g1.s n1 b1 _ fun y e G2 H2 g2 n2 b2 d2 p2 =>
    hr G2 H2 x y d e g2.s (dp_mono g2.g _ _ d1) d2 p1 p2 Q fun z f z1 z2 => q z f G2 H2 (g1.trans g2) n2 (b2.up (by omega)) z1 z2
/-- a built-in of one argument -/
theorem evN_cb {r : List V → Hp → VK → Prop} (h : EvN K b n te σ G φ) (hr : ∀ G1 H1 v d, Same G1 H1 → Dp K G1 v d → φ d → ∀ Q : VK, (∀ z f G2 H2, Grow B0 G1 H1 G2 H2 → Dp K G2 z f → χ f → Q z H2) → r [v] H1 Q) : EvN K b n (tCB r (tCons te tNil)) σ G χ :=
  fun N G0 H hN s t h0 hb Q q => h N G0 H hN s t h0 hb _ fun v d G1 H1 g1 n1 b1 d1 p1 => hr G1 H1 v d g1.s d1 p1 Q fun z f G2 H2 g2 z1 z2 =>
    q z f G2 H2 (g1.trans (Grow.wide g2)) (Grow.boxN (Grow.wide g2) n1 b1) (b1.same fun o ho => g2.same _ _ ho) z1 z2
theorem evN_tupleL (h : EvN K b n te σ G (fun d => ∃ ds, d = .list ds ∧ χ (.tuple ds))) : EvN K b n (tCB (fun xs H Q => ∃ p ys, xs = [.ref p] ∧ ((SqL K H p ys ∧ ∀ l, H l = none → Q (.ref l) (upd H l (.tup ys))) ∨ (SqT K H p ys ∧ Q (.ref p) H))) (tCons te tNil)) σ G χ :=
  evN_cb h fun G1 H1 v d s1 d1 ⟨ds, e, p⟩ Q q => by
    subst e
    obtain ⟨a, xs, rfl, h3, h4⟩ := dp_list d1
    exact ⟨a, xs, rfl, .inl ⟨s1.seq h3, fun l hl => q _ _ _ _ (Grow.new s1 hl) (.tup (.inl (.inl upd_same)) (dpa_mono (same_new (s1.free hl)) _ _ h4)) p⟩⟩
/-- int(i) -/
theorem ev_int1 {i : Int} (h : Ev c K te σ G (is (.int i))) : Ev c K (tCB (fun xs H Q => (∃ i, xs = [.int i] ∧ Q (.int i) H) ∨ ∃ k, xs = [.bl k] ∧ Q (.int (if k then 1 else 0)) H) (tCons te tNil)) σ G (is (.int i)) :=
  ev_cb (ea_cons h ea_nil) fun G1 H1 vs s1 p1 Q q => by
    obtain ⟨v, d, rfl, h1, h2⟩ := agOk_one p1
    subst h2
    exact .inl ⟨i, by rw [dp_int h1], q _ _ G1 H1 (Grow.refl s1) (.int _) rfl⟩
theorem ev_intB {k : Bool} (h : Ev c K te σ G (is (.bool k))) : Ev c K (tCB (fun xs H Q => (∃ i, xs = [.int i] ∧ Q (.int i) H) ∨ ∃ k, xs = [.bl k] ∧ Q (.int (if k then 1 else 0)) H) (tCons te tNil)) σ G (is (.int (if k then 1 else 0))) :=
  ev_cb (ea_cons h ea_nil) fun G1 H1 vs s1 p1 Q q => by
    obtain ⟨v, d, rfl, h1, h2⟩ := agOk_one p1
    subst h2
    exact .inr ⟨k, by rw [dp_bool h1], q _ _ G1 H1 (Grow.refl s1) (.int _) rfl⟩
/-- a comprehension of draws -/
theorem evN_lc {α : Type} {wi : TI} {g : TG} {vs : List Nat} {k L : Nat} (enc : α → PyData) (Φ : List α → Prop) (T : α → Bool → Prop) (R : α → PyData → Prop)
    (hs : ∀ N G0 H, N + n ≤ LIM → Same G G0 → Same G0 H → G0 b = none → BoxAt b N H → ∀ Rr : It → Hp → Prop, (∀ J (xs : List α) G1 H1, Grow (fun a => a = b) G0 H G1 H1 → G1 b = none → BoxAt b (N + n) H1 → Src K J G1 (xs.map enc) → xs.length ≤ L → Φ xs → Rr J H1) → wi σ H Rr) (hL : L ≤ 100000)
    (ht : ∀ (xs : List α) x G1 v, Φ xs → x ∈ xs → Same G G1 → Dp K G1 v (enc x) → ∃ σ2, TgOk g (wipe σ vs) G1 v σ2 ∧ wipe σ2 vs = wipe σ vs ∧
      ∀ N G2 H2, N + k ≤ LIM → Same G1 G2 → Same G2 H2 → G2 b = none → BoxAt b N H2 → ∀ Q : Hp → Prop, (∀ G3 H3, Grow (fun a => a = b) G2 H2 G3 H3 → BoxAt b (N + k) H3 → T x false → Q H3) → ∀ Q2 : VK, (∀ v d G3 H3, Grow (fun a => a = b) G2 H2 G3 H3 → BoxAt b (N + k) H3 → Dp K G3 v d → T x true → R x d → Q2 v H3) → tt σ2 H2 fun bb H3 => if bb = true then te σ2 H3 Q2 else Q H3) :
    EvN K b (n + k * L) (tLc wi g tt te vs) σ G (fun d => ∃ xs ds, Φ xs ∧ xs.length ≤ L ∧ d = .list ds ∧ Pk T R xs ds) := fun N G0 H hN a t h0 hb Q q => hs N G0 H (by omega) a t h0 hb _ fun J xs G1 H1 g1 n1 b1 S hl hΦ => by
  intro D hD
  have hDb : D ≠ b := fun e => b1.ne (by rw [← e]; exact hD)
  have hlen : (xs.map enc).length = xs.length := List.length_map ..
  refine ⟨fun i m H2 => m = xs.length - i ∧ i ≤ xs.length ∧ ∃ G2 ds, Grow (fun a => a = b) G1 H1 G2 H2 ∧ G2 b = none ∧ BoxAt b (N + n + k * i) H2 ∧ ML K D G2 H2 ds ∧ Pk T R (xs.take i) ds,
    ⟨xs.length, by simp, Nat.zero_le _, G1, [], (Grow.refl g1.s).mut (.inl hD) (g1.s.free hD), n1, (b1.up (by omega)).same (fun o ho => by rw [upd_ne (Ne.symm hDb)]; exact ho), ⟨g1.s.free hD, [], upd_same, .nil⟩, by rw [List.take_zero]; exact .nil⟩, ?_⟩
  rintro i m H2 ⟨rfl, hi, G2, ds, gr, nb2, bx2, ml, pk⟩
  by_cases hlt : i < xs.length
  · have hx : xs[i]? = some xs[i] := List.getElem?_eq_getElem hlt
    generalize xs[i] = x at hx
    have hdx : (xs.map enc)[i]? = some (enc x) := by rw [List.getElem?_map, hx]; rfl
    refine .inr ⟨S.go i H2 (gr.g.trans gr.s) (by rw [hlen]; exact hlt), fun H3 => ∃ G3 ds, Grow (fun a => a = b) G1 H1 G3 H3 ∧ G3 b = none ∧ BoxAt b (N + n + k * (i + 1)) H3 ∧ ML K D G3 H3 ds ∧ Pk T R (xs.take (i + 1)) ds,
      fun H3 ⟨G3, ds, x1⟩ => ⟨xs.length - (i + 1), by omega, rfl, hlt, G3, ds, x1⟩, fun y H3 hy => ?_⟩
    obtain ⟨G3, gy, dy⟩ := S.yld i H2 y H3 G2 (enc x) gr.g gr.s hdx hy
    have gr3 := gr.trans (Grow.wide gy : Grow (fun a => a = b) G2 H2 G3 H3)
    have bx3 := bx2.same fun o ho => gy.same _ _ ho
    have nb3 := Grow.boxN (Grow.wide gy : Grow (fun a => a = b) G2 H2 G3 H3) nb2 bx2
    have ml3 := ml.grow0 gy
    obtain ⟨σ2, t1, t2, t3⟩ := ht xs x G3 y hΦ (List.mem_of_getElem? hx) ((a.trans g1.g).trans gr3.g) dy
    have hki : k * i + k ≤ k * L := by rw [← Nat.mul_succ]; exact Nat.mul_le_mul_left k (by omega)
    have hks : k * (i + 1) = k * i + k := Nat.mul_succ k i
    refine t1 H3 _ gy.s ⟨t2, t3 (N + n + k * i) G3 H3 (by omega) (Same.refl _) gy.s nb3 bx3 _ (fun G4 H4 g4 b4 hT => ?_) _ fun v d G4 H4 g4 b4 d4 hT hR => ?_⟩
    · refine ⟨G4, ds, gr3.trans g4, Grow.boxN g4 nb3 bx3, b4.up (by omega), ml3.grow hDb g4, ?_⟩
      rw [take_succ' hx]
      exact .no pk hT
    · obtain ⟨n4, acc, h4, dd⟩ := (ml3.grow hDb g4).ex
      refine ⟨acc, h4, ?_, G4, ds ++ [d], (gr3.trans g4).mut (.inl hD) n4, Grow.boxN g4 nb3 bx3, (b4.up (by omega)).same (fun o ho => by rw [upd_ne (Ne.symm hDb)]; exact ho), ⟨n4, _, upd_same, dpa_app dd (.cons d4 .nil)⟩, ?_⟩
      · rw [dpa_len dd]
        have := pk.len
        rw [List.length_take] at this
        exact Nat.lt_of_lt_of_le (show ds.length < 100001 by omega) (by decide)
      · rw [take_succ' hx]
        exact .yes pk hT hR
  · have e : i = xs.length := by omega
    subst e
    rw [List.take_length] at pk
    have hkl : k * xs.length ≤ k * L := Nat.mul_le_mul_left k hl
    have hHD : H D = none := by
      cases e : H D with
      | none => rfl
      | some u => exact absurd hD (g1.t D (by rw [e]; exact fun z => nomatch z))
    obtain ⟨G3, g3, k3, s3, n3⟩ := ml.know (g1.trans gr) hHD t
    exact .inl ⟨S.stop _ H2 (gr.g.trans gr.s) (by rw [hlen]; exact Nat.le_refl _), q _ (.list ds) G3 H2 g3 (n3 b (Ne.symm hDb) nb2) (bx2.up (by omega)) k3.dp ⟨xs, ds, hΦ, hl, rfl, pk⟩⟩
end
end Mk
namespace Mk
open PySem PySem.Spec PyProof.Rows L2
section
variable {X : Cx} {K : PySem.W.Frag}
/-- len of a list, a tuple or a text -/
theorem k_lenA (hK : X.K = K) : CallR X (.builtin "len") (fun xs H Q => (∃ p ys, xs = [.ref p] ∧ (SqL K H p ys ∨ SqT K H p ys) ∧ Q (.int ys.length) H) ∨ ∃ z, xs = [.str z] ∧ z.length ≤ sizeLine ∧ Q (.int z.length) H) := by
  subst hK
  intro pins s σ H xs us Q I r h
  rcases h with h | h
  · exact call_len_seq pins s σ H xs us Q I r h
  · exact call_len_str pins s σ H xs us Q I r h
end
section
variable {c : Ctx} {K : PySem.W.Frag} {σ : St} {G G' H : Hp} {te ta tb tl : TE} {φ ψ χ : PyData → Prop} {ds : List PyData} {b : Addr} {n m : Nat}
theorem ev_lenAq {t : Bool} (h : Ev c K te σ G (is (sqD t ds))) : Ev c K (tCB (fun xs H Q => (∃ p ys, xs = [.ref p] ∧ (SqL K H p ys ∨ SqT K H p ys) ∧ Q (.int ys.length) H) ∨ ∃ z, xs = [.str z] ∧ z.length ≤ sizeLine ∧ Q (.int z.length) H) (tCons te tNil)) σ G (is (.int ds.length)) :=
  ev_cb (ea_cons h ea_nil) fun G1 H1 vs s1 p1 Q q => by
    obtain ⟨v, d, rfl, h1, h2⟩ := agOk_one p1
    subst h2
    obtain ⟨a, xs, rfl, h3, h4⟩ := dp_sq h1
    refine .inl ⟨a, xs, rfl, ?_, q _ _ G1 H1 (Grow.refl s1) (.int _) (by rw [dpa_len h4])⟩
    rcases h3 with h3 | h3
    · exact .inl (s1.seq h3)
    · exact .inr (Same.sqT s1 h3)
theorem ev_lenAs {x : Str} (h : Ev c K te σ G (is (.str x))) (hx : x.length ≤ 100000) : Ev c K (tCB (fun xs H Q => (∃ p ys, xs = [.ref p] ∧ (SqL K H p ys ∨ SqT K H p ys) ∧ Q (.int ys.length) H) ∨ ∃ z, xs = [.str z] ∧ z.length ≤ sizeLine ∧ Q (.int z.length) H) (tCons te tNil)) σ G (is (.int x.length)) :=
  ev_cb (ea_cons h ea_nil) fun G1 H1 vs s1 p1 Q q => by
    obtain ⟨v, d, rfl, h1, h2⟩ := agOk_one p1
    subst h2
    exact .inr ⟨x, by rw [dp_str h1], Nat.le_trans hx (by decide), q _ _ G1 H1 (Grow.refl s1) (.int _) rfl⟩
/-- a range that is drawn -/
theorem rangeN {L : Nat} (h : EvN K b n te σ G (fun d => ∃ k : Nat, d = .int (k : Int) ∧ k ≤ L)) (hL : L ≤ 1000000) : ∀ N G0 H, N + n ≤ LIM → Same G G0 → Same G0 H → G0 b = none → BoxAt b N H → ∀ Rr : It → Hp → Prop,
    (∀ J (xs : List Nat) G1 H1, Grow (fun a => a = b) G0 H G1 H1 → G1 b = none → BoxAt b (N + n) H1 → Src K J G1 (xs.map fun i : Nat => PyData.int (i : Int)) → xs.length ≤ L → True → Rr J H1) → iRng1 (tCons te tNil) σ H Rr := fun N G0 H hN s t h0 hb Rr r =>
  h N G0 H hN s t h0 hb _ fun v d G1 H1 g1 n1 b1 d1 ⟨k, e, hk⟩ => by
    subst e
    refine ⟨(k : Int), by rw [dp_int d1], by omega, by omega, ?_⟩
    rw [Int.toNat_natCast]
    exact r _ (List.range k) G1 H1 g1 n1 b1 (src_range k) (by rw [List.length_range]; exact hk) trivial
/-- a range that is told -/
theorem rangeN0 {L : Nat} (h : Ev c0 K te σ G (is (.int (L : Int)))) (hL : L ≤ 1000000) : ∀ N G0 H, N + 0 ≤ LIM → Same G G0 → Same G0 H → G0 b = none → BoxAt b N H → ∀ Rr : It → Hp → Prop,
    (∀ J (xs : List Nat) G1 H1, Grow (fun a => a = b) G0 H G1 H1 → G1 b = none → BoxAt b (N + 0) H1 → Src K J G1 (xs.map fun i : Nat => PyData.int (i : Int)) → xs.length ≤ L → xs.length = L → Rr J H1) → iRng1 (tCons te tNil) σ H Rr := fun N G0 H hN s t h0 hb Rr r =>
  EvN.of h N G0 H hN s t h0 hb _ fun v d G1 H1 g1 n1 b1 d1 e => by
    subst e
    refine ⟨(L : Int), by rw [dp_int d1], by omega, by omega, ?_⟩
    rw [Int.toNat_natCast]
    exact r _ (List.range L) G1 H1 g1 n1 b1 (src_range L) (by rw [List.length_range]; exact Nat.le_refl _) (by rw [List.length_range])
/-- a turn without a test -/
theorem turnN {α : Type} {x : α} {k j : Nat} {vs : List Nat} {v : V} {R : α → PyData → Prop} (hw : wipe ((wipe σ vs).set j (some v)) vs = wipe σ vs) (h : EvN K b k te ((wipe σ vs).set j (some v)) G (R x)) : ∃ σ2, TgOk (gName j) (wipe σ vs) G v σ2 ∧ wipe σ2 vs = wipe σ vs ∧
      ∀ N G2 H2, N + k ≤ LIM → Same G G2 → Same G2 H2 → G2 b = none → BoxAt b N H2 → ∀ Q : Hp → Prop, (∀ G3 H3, Grow (fun a => a = b) G2 H2 G3 H3 → BoxAt b (N + k) H3 → true = false → Q H3) → ∀ Q2 : VK, (∀ v d G3 H3, Grow (fun a => a = b) G2 H2 G3 H3 → BoxAt b (N + k) H3 → Dp K G3 v d → true = true → R x d → Q2 v H3) → tYes σ2 H2 fun bb H3 => if bb = true then te σ2 H3 Q2 else Q H3 :=
  ⟨_, tg_name, hw, fun N G2 H2 hN s t h0 hb Q _ Q2 q2 => by
    show te _ H2 Q2
    exact h N G2 H2 hN s t h0 hb Q2 fun v d G3 H3 g3 _ b3 d3 p3 => q2 v d G3 H3 g3 b3 d3 rfl p3⟩
theorem evN_map {α : Type} {wi : TI} {vs : List Nat} {k L j : Nat} (enc : α → PyData) (Φ : List α → Prop) (R : α → PyData → Prop)
    (hs : ∀ N G0 H, N + n ≤ LIM → Same G G0 → Same G0 H → G0 b = none → BoxAt b N H → ∀ Rr : It → Hp → Prop, (∀ J (xs : List α) G1 H1, Grow (fun a => a = b) G0 H G1 H1 → G1 b = none → BoxAt b (N + n) H1 → Src K J G1 (xs.map enc) → xs.length ≤ L → Φ xs → Rr J H1) → wi σ H Rr) (hL : L ≤ 100000) (hw : ∀ v, wipe ((wipe σ vs).set j (some v)) vs = wipe σ vs)
    (ht : ∀ x G1 v, Same G G1 → Dp K G1 v (enc x) → EvN K b k te ((wipe σ vs).set j (some v)) G1 (R x)) :
    EvN K b (n + k * L) (tLc wi (gName j) tYes te vs) σ G (fun d => ∃ xs ds, Φ xs ∧ xs.length ≤ L ∧ d = .list ds ∧ ds.length = xs.length ∧ ∀ d ∈ ds, ∃ x ∈ xs, R x d) :=
  (evN_lc enc Φ (fun _ b => b = true) R hs hL fun xs x G1 v _ _ s1 dv => by
    obtain ⟨σ2, t1, t2, t3⟩ := turnN (x := x) (R := R) (hw v) (ht x G1 v s1 dv)
    exact ⟨σ2, t1, t2, fun N G2 H2 hN s t h0 hb Q q Q2 q2 => t3 N G2 H2 hN s t h0 hb Q (fun G3 H3 g3 b3 z => nomatch z) Q2 q2⟩).imp fun d ⟨xs, ds, h1, h2, h3, pk⟩ => ⟨xs, ds, h1, h2, h3, pk.all, pk.mem⟩
end
end Mk
/-! ## MkW11 -/
set_option autoImplicit true
set_option Elab.async false
set_option linter.all false
set_option maxRecDepth 100000
set_option maxHeartbeats 4000000
namespace Mk
open PySem PySem.Spec PyProof.Rows L2 MkM
section
variable {c : Ctx} {K : PySem.W.Frag} {σ : St} {G H : Hp} {te ti : TE} {tz : TS} {D : Ends} {b : Addr}
/-- xs[i] = e and what follows, xs a list under way -/
theorem q_setL {j k : Nat} {u : PyData} {acc : List V} (hj : σ[j]? = some (some (.ref b))) (hx : H b = some (.lst acc)) (h : Ev (cK c b (.lst acc)) K te σ G (is u)) (hi : ∀ G1, Same G G1 → Ev (cK c b (.lst acc)) K ti σ G1 (is (.int (k : Int)))) (hk : k < acc.length) (s : Same G H) (h0 : G b = none) (jc : c.J H) (nP : ¬ c.P b)
    (kk : ∀ v G1 H1, Grow (fun a => c.B a ∨ a = b) G H G1 H1 → c.J H1 → G1 b = none → Dp K G1 v u → H1 b = some (.lst (acc.set k v)) → tz D σ H1) : tSeq (tAsg te (gSub (tVar j) ti rSetL)) tz D σ H :=
  h G H (Same.refl G) s ⟨jc, hx⟩ _ fun v d G1 H1 g1 j1 d1 p1 => ⟨.ref b, hj, hi G1 g1.g G1 H1 (Same.refl G1) g1.s j1 _ fun v2 d2 G2 H2 g2 j2 d2' p2 => by
    subst p1 p2
    have gg : Grow c.B G H G2 H2 := (show Grow c.B G H G1 H1 from g1).trans g2
    have n2 : G2 b = none := gg.none1 (by rw [hx]; exact fun z => nomatch z) h0
    have gw : Grow (fun a => c.B a ∨ a = b) G H G2 H2 := ⟨gg.g, fun a o nb e => gg.h a o (fun q => nb (.inl q)) e, gg.s, gg.n, gg.t⟩
    refine ⟨b, acc, (k : Int), k, rfl, dp_int d2', j2.2, ?_, kk v G2 _ (gw.mut (.inr (.inr rfl)) n2) (c.mut j2.1 nP) n2 (dp_mono g2.g _ _ d1) upd_same⟩
    unfold L2.ixN
    rw [if_pos (by omega), if_pos (by omega), Int.toNat_natCast]⟩
end
theorem dp_three {K : PySem.W.Frag} (G : Hp) (x y z : Int) : DpAll K G [.int x, .int y, .int z] [.int x, .int y, .int z] := .cons (.int x) (.cons (.int y) (.cons (.int z) .nil))
theorem modz {i j : Int} (h : 0 < j) : 0 ≤ i.fmod j ∧ i.fmod j < j := ⟨Int.fmod_nonneg_of_pos i h, Int.fmod_lt_of_pos i h⟩
section
variable {P : Program} {w : World} {K : PySem.W.Frag} {mg : Str → Option Value} {base : Heap}
/-! ### _law_take -/
-- slots: 0 _law_box_here, 1 _law_size_so, 2 _law_some, 3 _law_once, 4 _law_far, 5 _law_again_here
abbrev N_l_take : List Str := ["_law_box_here", "_law_size_so", "_law_some", "_law_once", "_law_far", "_law_again_here"]
theorem sc_l_take : FnScope N_l_take ["_law_box_here", "_law_size_so"] (defScope st_l_take) := ⟨rfl, rfl, rfl, by decide +kernel, rfl, by decide +kernel, by decide +kernel⟩
theorem bd_l_take : BindOk "_law_take" "_law_take" st_l_take ["_law_box_here", "_law_size_so"] := fun _ _ _ _ _ _ us hl => match us, hl with | [_, _], _ => rfl
abbrev spTake (K : PySem.W.Frag) : Sp := spB K 1 (fun n : Nat => [.int (n : Int)]) (fun n => 0 < n ∧ n < 1000000000) (fun n d => ∃ k : Nat, d = .int (k : Int) ∧ k < n)
theorem ok_l_take (T : Txt K mg) : Callee P w K mg base 1 "_law_take" ["_law_box_here", "_law_size_so"] (spTake K) := by
  refine callee_of T.f_l_take T.g_l_take sc_l_take bd_l_take (spB_len fun _ => rfl) fun cdv A outer s H vs Q E hr h => ?_
  obtain ⟨b, ws, n, G, N, rfl, hs, h0, ⟨x, y, z, hb, hz, hzN⟩, hN, ha, ⟨hn, hn2⟩, k⟩ := h
  have hn : 0 < n := hn
  have hn2 : n < 1000000000 := hn2
  obtain ⟨v1, rfl, d1⟩ := dpa_one ha
  have k' : ∀ i : Int, 0 ≤ i → i < n → ∀ v G1 H1, Grow (fun a => a = b) G H G1 H1 → G1 b = none → BoxAt b (N + 1) H1 → Dp K G1 v (.int i) → Q v H1 := fun i h1 h2 v G1 H1 g1 n1 b1 dv => k v _ G1 H1 g1 n1 b1 dv ⟨i.toNat, by rw [Int.toNat_of_nonneg h1], by omega⟩
  have up0 : ∀ {G H G1 H1 : Hp}, Grow (fun a => c0.B a ∨ a = b) G H G1 H1 → Grow (fun a => a = b) G H G1 H1 := fun g => ⟨g.g, fun a o nb e => g.h a o (fun q => q.elim id nb) e, g.s, g.n, g.t⟩
  refine ⟨_, (pss_cons (ps_if (pt_cmpR op_gt (pe_ix (k_ixL (K := K) rfl) (pv 0) pe_int (fun _ _ => rfl)) pe_int (nomark _)) (pss_cons (ps_set (i := 2) sc_l_take.nd rfl (by first | exact Or.inl rfl | exact Or.inr rfl) (pe_op op_modN (pe_callTy (T := "int") call_int1 (by rfl) T.b_int (by decide +kernel) (pa_cons (pe_ix (k_ixL (K := K) rfl) (pv 0) pe_int (fun _ _ => rfl)) pa_nil)) (pv 1)))
        (pss_cons (ps_asg (pe_op op_fdivN (pe_ix (k_ixL (K := K) rfl) (pv 0) pe_int (fun _ _ => rfl)) (pv 1)) (pg_sub (pv 0) pe_int set_list))
        (pss_one (ps_ret (pv 2))))) pss_nil)
        (pss_cons (ps_asg (pe_op op_add (pe_ix (k_ixL (K := K) rfl) (pv 0) pe_int (fun _ _ => rfl)) pe_int) (pg_sub (pv 0) pe_int set_list))
        (pss_cons (ps_set (i := 3) sc_l_take.nd rfl (by first | exact Or.inl rfl | exact Or.inr rfl) (pe_op op_modN (pe_callTy (T := "int") call_int1 (by rfl) T.b_int (by decide +kernel) (pa_cons (pe_op op_mul (pe_op op_add (pe_ix (k_ixL (K := K) rfl) (pv 0) pe_int (fun _ _ => rfl)) (pe_op op_mul pe_int (pe_ix (k_ixL (K := K) rfl) (pv 0) pe_int (fun _ _ => rfl)))) (pe_op op_add pe_int (pe_ix (k_ixL (K := K) rfl) (pv 0) pe_int (fun _ _ => rfl)))) pa_nil)) pe_int))
        (pss_cons (ps_set (i := 4) sc_l_take.nd rfl (by first | exact Or.inl rfl | exact Or.inr rfl) (pe_op op_add (pe_op op_modN (pe_callTy (T := "int") call_int1 (by rfl) T.b_int (by decide +kernel) (pa_cons (pv 3) pa_nil)) pe_int) pe_int))
        (pss_cons (ps_set (i := 5) sc_l_take.nd rfl (by first | exact Or.inl rfl | exact Or.inr rfl) (pe_op op_modN (pe_callTy (T := "int") call_int1 (by rfl) T.b_int (by decide +kernel) (pa_cons (pe_op op_mul (pe_op op_add (pe_op op_add (pv 3) (pe_ix (k_ixL (K := K) rfl) (pv 0) pe_int (fun _ _ => rfl))) (pe_op op_fdivN (pe_ix (k_ixL (K := K) rfl) (pv 0) pe_int (fun _ _ => rfl)) pe_int)) (pv 4)) pa_nil)) pe_int))
        (pss_one (ps_ret (pe_op op_modN (pe_callTy (T := "int") call_int1 (by rfl) T.b_int (by decide +kernel) (pa_cons (pe_op op_fdivN (pe_op op_modN (pe_callTy (T := "int") call_int1 (by rfl) T.b_int (by decide +kernel) (pa_cons (pe_op op_add (pe_op op_mul (pv 5) pe_int) (pv 3)) pa_nil)) pe_int) pe_int) pa_nil)) (pv 1))))))))), ?_⟩
  refine q_if (c := cK c0 b (.lst [.int x, .int y, .int z])) (G := G) (φ := is (decide (0 < x))) (et_test (ev_I0 (ev_ixM (d := .int x) (j := 0) rfl (fun H j => j.2) (dp_three G x y z) ev_int rfl) ev_int (fun _ => .bl _))) hs ⟨trivial, hb⟩ fun bb G1 H1 g1 j1 e => ?_
  have e : bb = decide (0 < x) := e
  have g1 : Grow B0 G H G1 H1 := g1
  have hb1 : H1 b = some (.lst [.int x, .int y, .int z]) := j1.2
  have n1 : G1 b = none := g1.none1 (by rw [hb]; exact fun z => nomatch z) h0
  have d11 := dp_mono g1.g _ _ d1
  by_cases hx : 0 < x
  · rw [decide_eq_true hx] at e
    subst e
    refine q_asg (c := cK c0 b (.lst [.int x, .int y, .int z])) (K := K) (G := G1) (φ := is (.int (x.fmod n))) (ev_I (ev_int1 (ev_ixM (d := .int x) (j := 0) rfl (fun H j => j.2) (dp_three G1 x y z) ev_int rfl)) (ev_var rfl d11) (by omega) (fun _ => .int _)) g1.s j1 fun v2 d2 G2 H2 g2 j2 dv2 e2 => ?_
    subst e2
    have g2 : Grow B0 G1 H1 G2 H2 := g2
    have n2 : G2 b = none := g2.none1 (by rw [hb1]; exact fun z => nomatch z) n1
    refine q_setL (c := c0) (k := 0) (G := G2) (u := .int (x.fdiv n)) rfl j2.2 (ev_I (ev_ixM (d := .int x) (j := 0) rfl (fun H j => j.2) (dp_three G2 x y z) ev_int rfl) (ev_var rfl (dp_mono g2.g _ _ d11)) ⟨by omega, by omega⟩ (fun _ => .int _)) (fun _ _ => ev_int) (by simp) g2.s n2 trivial (fun z => z) fun v3 G3 H3 g3 _ n3 dv3 hb3 => ?_
    have hv3 := dp_int dv3
    subst hv3
    have g3 := up0 g3
    refine st_ret (c := c0) (K := K) (G := G3) (φ := is (.int (x.fmod n))) (ev_var rfl (dp_mono g3.g _ _ dv2)) g3.s trivial fun v d G4 H4 g4 _ dv e => ?_
    subst e
    have hm := modz (i := x) (j := (n : Int)) (by omega)
    have g4 : Grow B0 G3 H3 G4 H4 := g4
    exact k' _ hm.1 hm.2 v G4 H4 (((Grow.wide (g1.trans g2)).trans g3).trans (Grow.wide g4)) (g4.none1 (by rw [hb3]; exact fun z => nomatch z) n3) ⟨_, y, z, g4.same _ _ hb3, hz, by omega⟩ dv
  · rw [decide_eq_false hx] at e
    subst e
    refine q_setL (c := c0) (k := 2) (G := G1) (u := .int (z + 1)) rfl hb1 (ev_I0 (ev_ixM (d := .int z) (j := 2) rfl (fun H j => j.2) (dp_three G1 x y z) ev_int rfl) ev_int (fun _ => .int _)) (fun _ _ => ev_int) (by simp) g1.s n1 trivial (fun z => z) fun v2 G2 H2 g2 _ n2 dv2 hb2 => ?_
    have hv2 := dp_int dv2
    subst hv2
    have g2 := up0 g2
    have hb2 : H2 b = some (.lst [.int x, .int y, .int (z + 1)]) := hb2
    have hz1 : 0 ≤ z + 1 := by omega
    have hz2 : z + 1 ≤ ((N + 1 : Nat) : Int) := by omega
    have hz3 : z + 1 ≤ 1000000000 := by
      have : ((N + 1 : Nat) : Int) ≤ 1000000000 := by
        have : N + 1 ≤ 1000000000 := hN
        omega
      omega
    generalize z + 1 = z1 at hb2 hz1 hz2 hz3
    have rd1 : ∀ (G : Hp) (σ : St), σ[0]? = some (some (.ref b)) → Ev (cK c0 b (.lst [.int x, .int y, .int z1])) K (tOp (rIxL K) (tVar 0) (tC (.int 1))) σ G (is (.int y)) := fun G σ hσ => ev_ixM (d := .int y) (j := 1) hσ (fun H j => j.2) (dp_three G x y z1) ev_int rfl
    have rd2 : ∀ (G : Hp) (σ : St), σ[0]? = some (some (.ref b)) → Ev (cK c0 b (.lst [.int x, .int y, .int z1])) K (tOp (rIxL K) (tVar 0) (tC (.int 2))) σ G (is (.int z1)) := fun G σ hσ => ev_ixM (d := .int z1) (j := 2) hσ (fun H j => j.2) (dp_three G x y z1) ev_int rfl
    refine q_asg (c := cK c0 b (.lst [.int x, .int y, .int z1])) (K := K) (G := G2) (φ := is (.int (((y + 48271 * z1) * (39373 + z1)).fmod 2147483647))) (ev_I (ev_int1 (ev_I (ev_I0 (rd1 G2 _ rfl) (ev_I ev_int (rd2 G2 _ rfl) (.inl ⟨by omega, by omega⟩) (fun _ => .int _)) (fun _ => .int _)) (ev_I0 ev_int (rd2 G2 _ rfl) (fun _ => .int _)) (.inr ⟨by omega, by omega⟩) (fun _ => .int _))) ev_int (by decide) (fun _ => .int _)) g2.s ⟨trivial, hb2⟩ fun v3 d3 G3 H3 g3 j3 dv3 e3 => ?_
    subst e3
    have hm1 := modz (i := (y + 48271 * z1) * (39373 + z1)) (j := 2147483647) (by decide)
    generalize ((y + 48271 * z1) * (39373 + z1)).fmod 2147483647 = once at dv3 hm1
    have g3 : Grow B0 G2 H2 G3 H3 := g3
    refine q_asg (c := cK c0 b (.lst [.int x, .int y, .int z1])) (K := K) (G := G3) (φ := is (.int (once.fmod 40009 + 7))) (ev_I0 (ev_I (ev_int1 (ev_var rfl dv3)) ev_int (by decide) (fun _ => .int _)) ev_int (fun _ => .int _)) g3.s j3 fun v4 d4 G4 H4 g4 j4 dv4 e4 => ?_
    subst e4
    have hm2 : 0 ≤ once.fmod 40009 + 7 ∧ once.fmod 40009 + 7 < 40100 := by
      have := modz (i := once) (j := 40009) (by decide)
      omega
    generalize once.fmod 40009 + 7 = far at dv4 hm2
    have g4 : Grow B0 G3 H3 G4 H4 := g4
    have dv3' := dp_mono g4.g _ _ dv3
    refine q_asg (c := cK c0 b (.lst [.int x, .int y, .int z1])) (K := K) (G := G4) (φ := is (.int (((once + z1 + y.fdiv 1000003) * far).fmod 2147483629))) (ev_I (ev_int1 (ev_I (ev_I0 (ev_I0 (ev_var rfl dv3') (rd2 G4 _ rfl) (fun _ => .int _)) (ev_I (rd1 G4 _ rfl) ev_int ⟨by decide, by decide⟩ (fun _ => .int _)) (fun _ => .int _)) (ev_var rfl dv4) (.inr ⟨by omega, by omega⟩) (fun _ => .int _))) ev_int (by decide) (fun _ => .int _)) g4.s j4 fun v5 d5 G5 H5 g5 j5 dv5 e5 => ?_
    subst e5
    generalize ((once + z1 + y.fdiv 1000003) * far).fmod 2147483629 = agn at dv5
    have g5 : Grow B0 G4 H4 G5 H5 := g5
    refine st_ret (c := c0) (K := K) (G := G5) (φ := is (.int ((((agn * 48271 + once).fmod 2147483587).fdiv 64).fmod n))) (ev_I (ev_int1 (ev_I (ev_I (ev_int1 (ev_I0 (ev_I (ev_var rfl dv5) ev_int (.inr ⟨by decide, by decide⟩) (fun _ => .int _)) (ev_var rfl (dp_mono g5.g _ _ dv3')) (fun _ => .int _))) ev_int (by decide) (fun _ => .int _)) ev_int ⟨by decide, by decide⟩ (fun _ => .int _))) (ev_var rfl (dp_mono (((g2.g.trans g3.g).trans g4.g).trans g5.g) _ _ d11)) (by omega) (fun _ => .int _)) g5.s trivial fun v d G6 H6 g6 _ dv e => ?_
    subst e
    have hm := modz (i := ((agn * 48271 + once).fmod 2147483587).fdiv 64) (j := (n : Int)) (by omega)
    have g26 : Grow B0 G2 H2 G6 H6 := ((g3.trans g4).trans g5).trans g6
    exact k' _ hm.1 hm.2 v G6 H6 (((Grow.wide g1).trans g2).trans (Grow.wide g26)) (g26.none1 (by rw [hb2]; exact fun z => nomatch z) n2) ⟨x, y, z1, g26.same _ _ hb2, hz1, hz2⟩ dv
/-! ### _law_of: of a list or tuple, of a text -/
-- slots: 0 _law_box_here, 1 _law_goods_so
abbrev N_l_of : List Str := ["_law_box_here", "_law_goods_so"]
theorem sc_l_of : FnScope N_l_of ["_law_box_here", "_law_goods_so"] (defScope st_l_of) := ⟨rfl, rfl, rfl, by decide +kernel, rfl, by decide +kernel, by decide +kernel⟩
theorem bd_l_of : BindOk "_law_of" "_law_of" st_l_of ["_law_box_here", "_law_goods_so"] := fun _ _ _ _ _ _ us hl => match us, hl with | [_, _], _ => rfl
abbrev spOfQ (K : PySem.W.Frag) : Sp := spB K 1 (fun i : Bool × List PyData => [sqD i.1 i.2]) (fun i => i.2 ≠ [] ∧ i.2.length < 1000000) (fun i d => d ∈ i.2)
abbrev spOfS (K : PySem.W.Frag) : Sp := spB K 1 (fun x : Str => [.str x]) (fun x => x.length ≠ 0 ∧ x.length ≤ 100000) (fun x d => ∃ c ∈ x.cps.toList, d = .str ⟨#[c]⟩)
theorem ok_l_ofQ (T : Txt K mg) : Callee P w K mg base 2 "_law_of" ["_law_box_here", "_law_goods_so"] (spOfQ K) := by
  have C_l_take : Callee P w K mg base 1 "_law_take" ["_law_box_here", "_law_size_so"] (spTake K) := ok_l_take T
  refine callee_of T.f_l_of T.g_l_of sc_l_of bd_l_of (spB_len fun _ => rfl) fun cdv A outer s H vs Q E hr h => ?_
  obtain ⟨b, ws, ⟨t, ds⟩, G, N, rfl, hs, h0, hb, hN, ha, ⟨hn, hn2⟩, k⟩ := h
  have hn : ds ≠ [] := hn
  have hn2 : ds.length < 1000000 := hn2
  have hpos : 0 < ds.length := List.length_pos_iff.mpr hn
  obtain ⟨v1, rfl, d1⟩ := dpa_one ha
  refine ⟨_, (pss_one (ps_ret (pe_ix (k_ixS (K := K) rfl) (pv 1) (pe_callC C_l_take hr (by omega) rfl (pa_cons (pv 0) (pa_cons (pe_callB (id := "len") (k_lenA (K := K) rfl) (by rfl) T.b_len (by decide +kernel) (pa_cons (pv 1) pa_nil)) pa_nil))) (fun _ _ => rfl)))), ?_⟩
  refine (evN_op (K := K) (b := b) (σ := [some (V.ref b), some v1]) (G := G) (χ := fun d => d ∈ ds) (EvN.of (ev_var (i := 1) rfl d1)) (evN_call (n := 1) (E := E0) ds.length (j := 0) rfl (ea_cons (ev_lenAq (ev_var (i := 1) rfl d1)) ea_nil) ⟨hpos, by omega⟩) fun G1 H1 x y d e s1 h1 h2 p1 p2 Q q => ?_) N G H hN (Same.refl G) hs h0 hb _ fun v d G1 H1 g1 n1 b1 dv p => k v d G1 H1 g1 n1 b1 dv p
  subst p1
  obtain ⟨i, rfl, hi⟩ := p2
  have hx : ds[i]? = some ds[i] := List.getElem?_eq_getElem hi
  cases t with
  | true =>
    obtain ⟨a, xs, rfl, h3, h4⟩ := dp_tup h1
    obtain ⟨v, hv, h5⟩ := dpa_get h4 hx
    exact .inr (.inl ⟨a, xs, (i : Int), v, rfl, dp_int h2, Same.sqT s1 h3, atI_nat hv, q v _ h5 (List.getElem_mem hi)⟩)
  | false =>
    obtain ⟨a, xs, rfl, h3, h4⟩ := dp_list h1
    obtain ⟨v, hv, h5⟩ := dpa_get h4 hx
    exact .inl ⟨a, xs, (i : Int), v, rfl, dp_int h2, s1.seq h3, atI_nat hv, q v _ h5 (List.getElem_mem hi)⟩
theorem ok_l_ofS (T : Txt K mg) : Callee P w K mg base 2 "_law_of" ["_law_box_here", "_law_goods_so"] (spOfS K) := by
  have C_l_take : Callee P w K mg base 1 "_law_take" ["_law_box_here", "_law_size_so"] (spTake K) := ok_l_take T
  refine callee_of T.f_l_of T.g_l_of sc_l_of bd_l_of (spB_len fun _ => rfl) fun cdv A outer s H vs Q E hr h => ?_
  obtain ⟨b, ws, x, G, N, rfl, hs, h0, hb, hN, ha, ⟨hn, hn2⟩, k⟩ := h
  have hn : x.length ≠ 0 := hn
  have hn2 : x.length ≤ 100000 := hn2
  obtain ⟨v1, rfl, d1⟩ := dpa_one ha
  refine ⟨_, (pss_one (ps_ret (pe_ix (k_ixS (K := K) rfl) (pv 1) (pe_callC C_l_take hr (by omega) rfl (pa_cons (pv 0) (pa_cons (pe_callB (id := "len") (k_lenA (K := K) rfl) (by rfl) T.b_len (by decide +kernel) (pa_cons (pv 1) pa_nil)) pa_nil))) (fun _ _ => rfl)))), ?_⟩
  refine (evN_op (K := K) (b := b) (σ := [some (V.ref b), some v1]) (G := G) (χ := fun d => ∃ c ∈ x.cps.toList, d = .str ⟨#[c]⟩) (EvN.of (ev_var (i := 1) rfl d1)) (evN_call (n := 1) (E := E0) x.length (j := 0) rfl (ea_cons (ev_lenAs (ev_var (i := 1) rfl d1) hn2) ea_nil) ⟨by omega, by omega⟩) fun G1 H1 u y d e s1 h1 h2 p1 p2 Q q => ?_) N G H hN (Same.refl G) hs h0 hb _ fun v d G1 H1 g1 n1 b1 dv p => k v d G1 H1 g1 n1 b1 dv p
  subst p1
  obtain ⟨i, rfl, hi⟩ := p2
  have hi : i < x.cps.toList.length := by
    rw [Array.length_toList]
    exact hi
  have hx : x.cps.toList[i]? = some x.cps.toList[i] := List.getElem?_eq_getElem hi
  exact .inr (.inr ⟨x, (i : Int), _, dp_str h1, dp_int h2, Nat.le_trans hn2 (by decide), atI_nat hx, q _ _ (.str _) ⟨_, List.getElem_mem hi, rfl⟩⟩)
/-! ### rows drawn -/
-- slots: 0 _law_box_here*, 1 _law_tags*, 2 _law_most, 3 _law_turn
abbrev N_l_event_row : List Str := ["_law_box_here", "_law_tags", "_law_most", "_law_turn"]
theorem sc_l_event_row : FnScope N_l_event_row ["_law_box_here", "_law_tags", "_law_most"] (defScope st_l_event_row) := ⟨rfl, rfl, rfl, by decide +kernel, rfl, by decide +kernel, by decide +kernel⟩
theorem bd_l_event_row : BindOk "_law_event_row" "_law_event_row" st_l_event_row ["_law_box_here", "_law_tags", "_law_most"] := fun _ _ _ _ _ _ us hl => match us, hl with | [_, _, _], _ => rfl
abbrev spEvent (K : PySem.W.Frag) : Sp := spB K 10 (fun i : List Str × Nat => [wd i.1, .int (i.2 : Int)]) (fun i => i.1 ≠ [] ∧ i.1.length ≤ 1000 ∧ i.2 ≤ 7) (fun i d => ∃ l : Wd, d = wd l ∧ l.length ≤ i.2 ∧ ∀ x ∈ l, x ∈ i.1)
theorem strs_of {names : List Str} {ds : List PyData} (h : ∀ d ∈ ds, d ∈ names.map PyData.str) : ∃ l : Wd, ds = l.map .str ∧ ∀ x ∈ l, x ∈ names := by
  obtain ⟨l, rfl⟩ := pre_map (f := PyData.str) (l := ds) fun d hd => by
    obtain ⟨x, _, e⟩ := List.mem_map.mp (h d hd)
    exact ⟨x, e.symm⟩
  refine ⟨l, rfl, fun x hx => ?_⟩
  obtain ⟨y, hy, e⟩ := List.mem_map.mp (h (.str x) (List.mem_map.mpr ⟨x, hx, rfl⟩))
  injection e with e
  rw [← e]
  exact hy
theorem ok_l_event_row (T : Txt K mg) : Callee P w K mg base 3 "_law_event_row" ["_law_box_here", "_law_tags", "_law_most"] (spEvent K) := by
  have C_l_take : Callee P w K mg base 1 "_law_take" ["_law_box_here", "_law_size_so"] (spTake K) := ok_l_take T
  have C_l_of : Callee P w K mg base 2 "_law_of" ["_law_box_here", "_law_goods_so"] (spOfQ K) := ok_l_ofQ T
  refine callee_of T.f_l_event_row T.g_l_event_row sc_l_event_row bd_l_event_row (spB_len fun _ => rfl) fun cdv A outer s H vs Q E hr h => ?_
  obtain ⟨b, ws, ⟨names, most⟩, G, N, rfl, hs, h0, hb, hN, ha, ⟨hn, hn2, hm⟩, k⟩ := h
  have hn : names ≠ [] := hn
  have hn2 : names.length ≤ 1000 := hn2
  have hm : most ≤ 7 := hm
  obtain ⟨v1, v2, rfl, d1, d2⟩ := dpa_two ha
  refine ⟨_, (pss_one (ps_ret (pe_callTy (T := "tuple") (k_tuple (K := K) rfl) (by rfl) T.b_tuple (by decide +kernel) (pa_cons (pe_lc (own := [("_law_turn", 3)]) rfl sc_l_event_row.nd (pi_range1 rfl T.b_range (pa_cons (pe_callC C_l_take hr (by omega) rfl (pa_cons (pv 0) (pa_cons (pe_op op_add (pv 2) pe_int) pa_nil))) pa_nil)) (blkOk_by (by kernel_rfl)) (fun _ _ _ _ _ => (pg_name (i := 3) sc_l_event_row.nd rfl (by first | exact Or.inl rfl | exact Or.inr rfl))) (fun _ _ _ _ _ => pts_nil) (fun _ _ _ _ _ => (pe_callC C_l_of hr (by omega) rfl (pa_cons (pv 0) (pa_cons (pv 1) pa_nil))))) pa_nil)))), ?_⟩
  refine (EvN.up (evN_tupleL (n := 1 + 1 * most) (χ := fun d => ∃ l : Wd, d = wd l ∧ l.length ≤ most ∧ ∀ x ∈ l, x ∈ names) (EvN.imp (evN_map (n := 1) (k := 1) (L := most) (σ := [some (V.ref b), some v1, some v2, none]) (G := G) (K := K) (b := b) (j := 3) (vs := [3]) (fun i : Nat => PyData.int (i : Int)) (fun _ => True) (fun _ d => d ∈ names.map PyData.str)
    (rangeN (EvN.imp (evN_call (n := 1) (E := E0) (most + 1) (j := 0) rfl (ea_cons ((ev_I0 (ev_var (i := 2) rfl d2) ev_int (fun _ => .int _)).to (by rw [Int.natCast_add]; rfl)) ea_nil) ⟨by omega, by omega⟩) fun d ⟨i, e, h⟩ => ⟨i, e, by omega⟩) (by omega)) (by omega) (fun _ => rfl)
    fun x G1 v s1 dv => evN_call (n := 1) (E := E0) (true, names.map PyData.str) (j := 0) rfl (ea_cons (ev_var (i := 1) rfl (dp_mono s1 _ _ d1)) ea_nil) ⟨by simpa using hn, by show (names.map PyData.str).length < 1000000; rw [List.length_map]; omega⟩) ?_)) (m := 10) (by omega)) N G H hN (Same.refl G) hs h0 hb _ fun v d G1 H1 g1 n1 b1 dv p => k v d G1 H1 g1 n1 b1 dv p
  rintro d ⟨xs, ds, _, h1, rfl, h2, h3⟩
  obtain ⟨l, rfl, hl⟩ := strs_of (names := names) fun d hd => by
    obtain ⟨_, _, q⟩ := h3 d hd
    exact q
  refine ⟨_, rfl, l, rfl, ?_, hl⟩
  rw [List.length_map] at h2
  omega
-- slots: 0 _law_box_here*, 1 _law_tags*, 2 _law_many, 3 _law_most*, 4 _law_turn
abbrev N_l_some_rows : List Str := ["_law_box_here", "_law_tags", "_law_many", "_law_most", "_law_turn"]
theorem sc_l_some_rows : FnScope N_l_some_rows ["_law_box_here", "_law_tags", "_law_many", "_law_most"] (defScope st_l_some_rows) := ⟨rfl, rfl, rfl, by decide +kernel, rfl, by decide +kernel, by decide +kernel⟩
theorem bd_l_some_rows : BindOk "_law_some_rows" "_law_some_rows" st_l_some_rows ["_law_box_here", "_law_tags", "_law_many", "_law_most"] := fun _ _ _ _ _ _ us hl => match us, hl with | [_, _, _, _], _ => rfl
abbrev spSome (K : PySem.W.Frag) : Sp := spB K 50 (fun i : List Str × Nat × Nat => [wd i.1, .int (i.2.1 : Int), .int (i.2.2 : Int)]) (fun i => i.1 ≠ [] ∧ i.1.length ≤ 1000 ∧ i.2.1 ≤ 4 ∧ i.2.2 ≤ 7) (fun i d => ∃ ls : List Wd, d = .list (ls.map wd) ∧ ls.length ≤ i.2.1 ∧ ∀ l ∈ ls, l.length ≤ i.2.2 ∧ ∀ x ∈ l, x ∈ i.1)
theorem ok_l_some_rows (T : Txt K mg) : Callee P w K mg base 4 "_law_some_rows" ["_law_box_here", "_law_tags", "_law_many", "_law_most"] (spSome K) := by
  have C_l_take : Callee P w K mg base 1 "_law_take" ["_law_box_here", "_law_size_so"] (spTake K) := ok_l_take T
  have C_l_event_row : Callee P w K mg base 3 "_law_event_row" ["_law_box_here", "_law_tags", "_law_most"] (spEvent K) := ok_l_event_row T
  refine callee_of T.f_l_some_rows T.g_l_some_rows sc_l_some_rows bd_l_some_rows (spB_len fun _ => rfl) fun cdv A outer s H vs Q E hr h => ?_
  obtain ⟨b, ws, ⟨names, many, most⟩, G, N, rfl, hs, h0, hb, hN, ha, ⟨hn, hn2, hk, hm⟩, k⟩ := h
  have hn : names ≠ [] := hn
  have hn2 : names.length ≤ 1000 := hn2
  have hk : many ≤ 4 := hk
  have hm : most ≤ 7 := hm
  obtain ⟨v1, v2, v3, rfl, d1, d2, d3⟩ := dpa_three ha
  refine ⟨_, (pss_one (ps_ret (pe_lc (own := [("_law_turn", 4)]) rfl sc_l_some_rows.nd (pi_range1 rfl T.b_range (pa_cons (pe_callC C_l_take hr (by omega) rfl (pa_cons (pv 0) (pa_cons (pe_op op_add (pv 2) pe_int) pa_nil))) pa_nil)) (blkOk_by (by kernel_rfl)) (fun _ _ _ _ _ => (pg_name (i := 4) sc_l_some_rows.nd rfl (by first | exact Or.inl rfl | exact Or.inr rfl))) (fun _ _ _ _ _ => pts_nil) (fun _ _ _ _ _ => (pe_callC C_l_event_row hr (by omega) rfl (pa_cons (pv 0) (pa_cons (pv 1) (pa_cons (pv 3) pa_nil)))))))), ?_⟩
  refine (EvN.up (EvN.imp (evN_map (n := 1) (k := 10) (L := many) (σ := [some (V.ref b), some v1, some v2, some v3, none]) (G := G) (K := K) (b := b) (j := 4) (vs := [4]) (fun i : Nat => PyData.int (i : Int)) (fun _ => True) (fun _ d => ∃ l : Wd, d = wd l ∧ l.length ≤ most ∧ ∀ x ∈ l, x ∈ names)
    (rangeN (EvN.imp (evN_call (n := 1) (E := E0) (many + 1) (j := 0) rfl (ea_cons ((ev_I0 (ev_var (i := 2) rfl d2) ev_int (fun _ => .int _)).to (by rw [Int.natCast_add]; rfl)) ea_nil) ⟨by omega, by omega⟩) fun d ⟨i, e, h⟩ => ⟨i, e, by omega⟩) (by omega)) (by omega) (fun _ => rfl)
    fun x G1 v s1 dv => evN_call (n := 10) (E := E0) (names, most) (j := 0) rfl (ea_cons (ev_var (i := 1) rfl (dp_mono s1 _ _ d1)) (ea_cons (ev_var (i := 3) rfl (dp_mono s1 _ _ d3)) ea_nil)) ⟨hn, hn2, hm⟩) ?_ (ψ := fun d => ∃ ls : List Wd, d = .list (ls.map wd) ∧ ls.length ≤ many ∧ ∀ l ∈ ls, l.length ≤ most ∧ ∀ x ∈ l, x ∈ names)) (m := 50) (by omega)) N G H hN (Same.refl G) hs h0 hb _ fun v d G1 H1 g1 n1 b1 dv p => k v d G1 H1 g1 n1 b1 dv p
  rintro d ⟨xs, ds, _, h1, rfl, h2, h3⟩
  obtain ⟨ls, rfl⟩ := pre_map (f := wd) (l := ds) fun d hd => by
    obtain ⟨_, _, l, e, _⟩ := h3 d hd
    exact ⟨l, e⟩
  refine ⟨ls, rfl, by rw [List.length_map] at h2; omega, fun l hl => ?_⟩
  obtain ⟨_, _, l', e, h4⟩ := h3 (wd l) (List.mem_map.mpr ⟨l, hl, rfl⟩)
  rw [wd_inj e]
  exact h4
end
end Mk
/-! ## MkW12 -/
set_option autoImplicit true
set_option Elab.async false
set_option linter.all false
set_option maxRecDepth 100000
set_option maxHeartbeats 4000000
namespace Mk
open PySem PySem.Spec PyProof.Rows L2 MkM
def zipD (ds es : List PyData) : List PyData := (ds.zip es).map fun p => .tuple [p.1, p.2]
section
variable {c : Ctx} {K : PySem.W.Frag} {σ : St} {G H : Hp} {ds es : List PyData} {ta : TA}
theorem zip_get {i : Nat} {d : PyData} (h : (zipD ds es)[i]? = some d) : ∃ d1 d2, ds[i]? = some d1 ∧ es[i]? = some d2 ∧ d = .tuple [d1, d2] := by
  unfold zipD at h
  rw [List.getElem?_map] at h
  cases q : (ds.zip es)[i]? with
  | none => rw [q] at h; cases h
  | some p =>
    rw [q] at h
    rw [List.getElem?_zip_eq_some] at q
    exact ⟨p.1, p.2, q.1, q.2, (Option.some.inj h).symm⟩
theorem zip_len : (zipD ds es).length = min ds.length es.length := by
  unfold zipD
  rw [List.length_map, List.length_zip]
theorem src_zip {a b : Addr} {xs ys : List V} (h1 : SqL K G a xs) (h2 : SqL K G b ys) (hd : DpAll K G xs ds) (he : DpAll K G ys es) : Src K (Itz K a b) G (zipD ds es) where
  go := fun i H s hi => by
    obtain ⟨d1, d2, e1, e2, _⟩ := zip_get (List.getElem?_eq_getElem hi)
    obtain ⟨v, hv, _⟩ := dpa_get hd e1
    obtain ⟨u, hu, _⟩ := dpa_get he e2
    exact ⟨xs, ys, v, u, s.seq h1, s.seq h2, hv, hu⟩
  stop := fun i H s hi => ⟨xs, ys, s.seq h1, s.seq h2, by rw [zip_len] at hi; rw [dpa_len hd, dpa_len he]; omega⟩
  yld := fun i H x H' G0 d g s hi y => by
    obtain ⟨d1, d2, e1, e2, rfl⟩ := zip_get hi
    obtain ⟨T, u1, u2, rfl, hT, rfl, y1, y2⟩ := y
    obtain ⟨v, hv, p1⟩ := dpa_get hd e1
    obtain ⟨u, hu, p2⟩ := dpa_get he e2
    have q1 : u1 = v := Option.some.inj ((y1 xs ((g.trans s).seq h1)).symm.trans hv)
    have q2 : u2 = u := Option.some.inj ((y2 ys ((g.trans s).seq h2)).symm.trans hu)
    subst q1 q2
    have gn := s.free hT
    exact ⟨_, Grow.new s hT, .tup (.inl (.inl upd_same)) (.cons (dp_mono (g.trans (same_new gn)) _ _ p1) (.cons (dp_mono (g.trans (same_new gn)) _ _ p2) .nil))⟩
theorem src_zipT {a b : Addr} {xs ys : List V} (h1 : SqT K G a xs) (h2 : SqT K G b ys) (hd : DpAll K G xs ds) (he : DpAll K G ys es) : Src K (RZ.ItzT K a b) G (zipD ds es) where
  go := fun i H s hi => by
    obtain ⟨d1, d2, e1, e2, _⟩ := zip_get (List.getElem?_eq_getElem hi)
    obtain ⟨v, hv, _⟩ := dpa_get hd e1
    obtain ⟨u, hu, _⟩ := dpa_get he e2
    exact ⟨xs, ys, v, u, Same.sqT s h1, Same.sqT s h2, hv, hu⟩
  stop := fun i H s hi => ⟨xs, ys, Same.sqT s h1, Same.sqT s h2, by rw [zip_len] at hi; rw [dpa_len hd, dpa_len he]; omega⟩
  yld := fun i H x H' G0 d g s hi y => by
    obtain ⟨d1, d2, e1, e2, rfl⟩ := zip_get hi
    obtain ⟨T, u1, u2, rfl, hT, rfl, y1, y2⟩ := y
    obtain ⟨v, hv, p1⟩ := dpa_get hd e1
    obtain ⟨u, hu, p2⟩ := dpa_get he e2
    have q1 : u1 = v := Option.some.inj ((y1 xs (Same.sqT (g.trans s) h1)).symm.trans hv)
    have q2 : u2 = u := Option.some.inj ((y2 ys (Same.sqT (g.trans s) h2)).symm.trans hu)
    subst q1 q2
    have gn := s.free hT
    exact ⟨_, Grow.new s hT, .tup (.inl (.inl upd_same)) (.cons (dp_mono (g.trans (same_new gn)) _ _ p1) (.cons (dp_mono (g.trans (same_new gn)) _ _ p2) .nil))⟩
theorem EvS.imp0 {wi : TI} {d e : List PyData} (h : EvS c K wi σ G (is d)) (w : d = e) : EvS c K wi σ G (is e) := by rw [← w]; exact h
theorem es_zip {t : Bool} (h : EA c K ta σ G (dats [sqD t ds, sqD t es])) : EvS c K (RZ.iZipA K ta) σ G (is (zipD ds es)) := fun G0 H a b j R r => h G0 H a b j _ fun vs G1 H1 g1 j1 p1 => by
  obtain ⟨v1, v2, rfl, d1, d2⟩ := dpa_two (agOk_dats p1)
  cases t with
  | true =>
    obtain ⟨p, xs, rfl, h3, h4⟩ := dp_tup d1
    obtain ⟨q, ys, rfl, h5, h6⟩ := dp_tup d2
    exact ⟨p, q, xs, ys, rfl, .inr ⟨Same.sqT g1.s h3, Same.sqT g1.s h5, r _ _ G1 H1 g1 j1 (src_zipT h3 h5 h4 h6) rfl⟩⟩
  | false =>
    obtain ⟨p, xs, rfl, h3, h4⟩ := dp_list d1
    obtain ⟨q, ys, rfl, h5, h6⟩ := dp_list d2
    exact ⟨p, q, xs, ys, rfl, .inl ⟨g1.s.seq h3, g1.s.seq h5, r _ _ G1 H1 g1 j1 (src_zip h3 h5 h4 h6) rfl⟩⟩
end
theorem kit_sb : kitB "str" "bool" = some false := by decide +kernel
theorem kit_ss : kitB "str" "str" = some true := by decide +kernel
theorem kit_il : kitB "int" "list" = some false := by decide +kernel
theorem kit_it : kitB "int" "tuple" = some false := by decide +kernel
theorem kit_ib : kitB "int" "bool" = some false := by decide +kernel
theorem kit_is : kitB "int" "str" = some false := by decide +kernel
theorem kit_ii : kitB "int" "int" = some true := by decide +kernel
/-- what _law_same looks at here: texts, ints, lists and tuples of such -/
def SameIn : Nat → PyData → Prop
  | 0, d => (∃ x, d = .str x) ∨ ∃ i, d = .int i
  | n + 1, d => ((∃ x, d = .str x) ∨ ∃ i, d = .int i) ∨ ∃ t ds, d = sqD t ds ∧ ds.length ≤ 1000 ∧ ∀ e ∈ ds, SameIn n e
section
variable {P : Program} {w : World} {K : PySem.W.Frag} {mg : Str → Option Value} {base : Heap}
/-! ### _law_same -/
-- slots: 0 _law_got, 1 _law_due, 2 _law_mine, 3 _law_its
abbrev N_l_same : List Str := ["_law_got", "_law_due", "_law_mine", "_law_its"]
theorem sc_l_same : FnScope N_l_same ["_law_got", "_law_due"] (defScope st_l_same) := ⟨rfl, rfl, rfl, by decide +kernel, rfl, by decide +kernel, by decide +kernel⟩
theorem bd_l_same : BindOk "_law_same" "_law_same" st_l_same ["_law_got", "_law_due"] := fun _ _ _ _ _ _ us hl => match us, hl with | [_, _], _ => rfl
abbrev spSame (K : PySem.W.Frag) (n : Nat) : Sp := spP K (fun d : PyData => [d, d]) (SameIn n) (fun _ => .bool true)
theorem ok_same_gen (T : Txt K mg) {lv : Nat} {S : PyData → Prop} (C : Callee P w K mg base lv "_law_same" ["_law_got", "_law_due"] (spP K (fun d : PyData => [d, d]) S (fun _ => .bool true))) :
    Callee P w K mg base (lv + 1) "_law_same" ["_law_got", "_law_due"] (spP K (fun d : PyData => [d, d]) (fun d => ((∃ x, d = .str x) ∨ ∃ i, d = .int i) ∨ ∃ t ds, d = sqD t ds ∧ ds.length ≤ 1000 ∧ ∀ e ∈ ds, S e) (fun _ => .bool true)) := by
  have C_l_same := C
  refine callee_of T.f_l_same T.g_l_same sc_l_same bd_l_same (spP_len fun _ => rfl) fun cdv A outer s H vs Q E hr h => ?_
  obtain ⟨d, G, hs, ha, hp, k⟩ := h
  obtain ⟨v1, v2, rfl, d1, d2⟩ := dpa_two ha
  refine ⟨_, (pss_cons (ps_if (pt_val (pe_callB (id := "isinstance") (k_isiT (K := K) rfl) (by rfl) T.b_isinstance (by decide +kernel) (pa_cons (pv 1) (pa_cons (pe_tup (pa_cons (pe_bltn (v := .ty "list") rfl T.b_list (by decide +kernel) rfl) (pa_cons (pe_bltn (v := .ty "tuple") rfl T.b_tuple (by decide +kernel) rfl) pa_nil))) pa_nil)))) (pss_cons (ps_if (pt_cmpR (op_ne) (pe_callB (id := "isinstance") (k_isi (K := K) rfl) (by rfl) T.b_isinstance (by decide +kernel) (pa_cons (pv 0) (pa_cons (pe_bltn (v := .ty "list") rfl T.b_list (by decide +kernel) rfl) pa_nil))) (pe_callB (id := "isinstance") (k_isi (K := K) rfl) (by rfl) T.b_isinstance (by decide +kernel) (pa_cons (pv 1) (pa_cons (pe_bltn (v := .ty "list") rfl T.b_list (by decide +kernel) rfl) pa_nil))) (nomark _)) (pss_one (ps_ret pe_bl)) pss_nil)
        (pss_cons (ps_if (pt_cmpR (op_ne) (pe_callB (id := "isinstance") (k_isi (K := K) rfl) (by rfl) T.b_isinstance (by decide +kernel) (pa_cons (pv 0) (pa_cons (pe_bltn (v := .ty "tuple") rfl T.b_tuple (by decide +kernel) rfl) pa_nil))) (pe_callB (id := "isinstance") (k_isi (K := K) rfl) (by rfl) T.b_isinstance (by decide +kernel) (pa_cons (pv 1) (pa_cons (pe_bltn (v := .ty "tuple") rfl T.b_tuple (by decide +kernel) rfl) pa_nil))) (nomark _)) (pss_one (ps_ret pe_bl)) pss_nil)
        (pss_one (ps_ret (pe_and (pe_cmpR (op_eq) (pe_callB (id := "len") (k_len (K := K) rfl) (by rfl) T.b_len (by decide +kernel) (pa_cons (pv 0) pa_nil)) (pe_callB (id := "len") (k_len (K := K) rfl) (by rfl) T.b_len (by decide +kernel) (pa_cons (pv 1) pa_nil)) (nomark _)) (pe_one (pe_callB (id := "all") (k_all (K := K) rfl rfl) (by rfl) T.b_all (by decide +kernel) (pa_cons (pe_lc (own := [("_law_mine", 2), ("_law_its", 3)]) rfl sc_l_same.nd (k_zip (K := K) rfl rfl T.b_zip (pa_cons (pv 0) (pa_cons (pv 1) pa_nil))) (blkOk_by (by kernel_rfl)) (fun _ _ _ _ _ => (k_pg_tup (K := K) (n := 2) rfl rfl (pgs_cons (pg_name (i := 2) sc_l_same.nd rfl (by first | exact Or.inl rfl | exact Or.inr rfl)) (pgs_cons (pg_name (i := 3) sc_l_same.nd rfl (by first | exact Or.inl rfl | exact Or.inr rfl)) pgs_nil)))) (fun _ _ _ _ _ => pts_nil) (fun _ _ _ _ _ => (pe_callC C_l_same hr (by omega) rfl (pa_cons (pv 2) (pa_cons (pv 3) pa_nil))))) pa_nil)))))))) pss_nil)
        (pss_cons (ps_if (PW.pt (pw_or (pt_cmp (pc_isN (pv 1)) rfl) (pw_or1 (pt_val (pe_callB (id := "isinstance") (k_isiT (K := K) rfl) (by rfl) T.b_isinstance (by decide +kernel) (pa_cons (pv 1) (pa_cons (pe_tup (pa_cons (pe_bltn (v := .ty "bool") rfl T.b_bool (by decide +kernel) rfl) (pa_cons (pe_bltn (v := .ty "str") rfl T.b_str (by decide +kernel) rfl) pa_nil))) pa_nil))))))) (pss_one (ps_ret (pe_and (pe_cmpR (k_eqP (K := K) rfl (Rm65 hr)) (pv 0) (pv 1) (nomark _)) (pe_and (pe_cmpR (op_eq) (pe_callB (id := "isinstance") (k_isi (K := K) rfl) (by rfl) T.b_isinstance (by decide +kernel) (pa_cons (pv 0) (pa_cons (pe_bltn (v := .ty "bool") rfl T.b_bool (by decide +kernel) rfl) pa_nil))) (pe_callB (id := "isinstance") (k_isi (K := K) rfl) (by rfl) T.b_isinstance (by decide +kernel) (pa_cons (pv 1) (pa_cons (pe_bltn (v := .ty "bool") rfl T.b_bool (by decide +kernel) rfl) pa_nil))) (nomark _)) (pe_one (pe_cmpR (op_eq) (pe_cmp (pc_isN (pv 0)) rfl) (pe_cmp (pc_isN (pv 1)) rfl) (nomark _))))))) pss_nil)
        (pss_one (ps_ret (pe_and (pe_callB (id := "isinstance") (k_isi (K := K) rfl) (by rfl) T.b_isinstance (by decide +kernel) (pa_cons (pv 0) (pa_cons (pe_bltn (v := .ty "int") rfl T.b_int (by decide +kernel) rfl) pa_nil))) (pe_and (pe_not (pe_callB (id := "isinstance") (k_isi (K := K) rfl) (by rfl) T.b_isinstance (by decide +kernel) (pa_cons (pv 0) (pa_cons (pe_bltn (v := .ty "bool") rfl T.b_bool (by decide +kernel) rfl) pa_nil)))) (pe_one (pe_cmpR (k_eqP (K := K) rfl (Rm65 hr)) (pv 0) (pv 1) (nomark _))))))))), ?_⟩
  rcases hp with (⟨x, rfl⟩ | ⟨i, rfl⟩) | ⟨t, ds, rfl, hl, hS⟩
  · refine q_if (c := c0) (G := G) (φ := is false) (et_B (ev_isi2 (r1 := false) (r2 := false) (ev_var rfl d2) kit_sl kit_st)) hs trivial fun b G1 H1 g1 _ e => ?_
    subst e
    have d1' := dp_mono g1.g _ _ d1
    have d2' := dp_mono g1.g _ _ d2
    refine q_if (c := c0) (G := G1) (φ := is true) ((et_or (a := false) (b := true) (et_B (ev_isN (ev_var rfl d2') false fun G v h => nonD (d := .str x) (fun z => nomatch z) h)) fun _ => et_B (ev_isi2 (r1 := false) (r2 := true) (ev_var rfl d2') kit_sb kit_ss)).to rfl) g1.s trivial fun b G2 H2 g2 _ e => ?_
    subst e
    have d1'' := dp_mono g2.g _ _ d1'
    have d2'' := dp_mono g2.g _ _ d2'
    refine st_ret (c := c0) (K := K) (G := G2) (φ := is (.bool true)) ((ev_andV (a := true) (b := true) ((ev_eqE (x := x) (y := x) enc_str (by omega) (ev_var rfl d1'') (ev_var rfl d2'')).to (by rw [decide_eq_true rfl])) fun _ => (ev_andV (a := true) (b := true) ((ev_eqS (x := .bl false) (y := .bl false) (ev_isi (r := false) (ev_var rfl d1'') kit_sb) (ev_isi (r := false) (ev_var rfl d2'') kit_sb) (fun G v h => dp_bool h) (fun G v h => dp_bool h) rfl).to rfl) fun _ => (ev_eqS (x := .bl false) (y := .bl false) (ev_isN (ev_var rfl d1'') false fun G v h => nonD (d := .str x) (fun z => nomatch z) h) (ev_isN (ev_var rfl d2'') false fun G v h => nonD (d := .str x) (fun z => nomatch z) h) (fun G v h => dp_bool h) (fun G v h => dp_bool h) rfl).to rfl).to rfl).to rfl) g2.s trivial fun v d G3 H3 g3 _ dv e => by subst e; exact k v G3 H3 ((g1.trans g2).trans g3) dv
  · refine q_if (c := c0) (G := G) (φ := is false) (et_B (ev_isi2 (r1 := false) (r2 := false) (ev_var rfl d2) kit_il kit_it)) hs trivial fun b G1 H1 g1 _ e => ?_
    subst e
    have d1' := dp_mono g1.g _ _ d1
    have d2' := dp_mono g1.g _ _ d2
    refine q_if (c := c0) (G := G1) (φ := is false) ((et_or (a := false) (b := false) (et_B (ev_isN (ev_var rfl d2') false fun G v h => nonD (d := .int i) (fun z => nomatch z) h)) fun _ => et_B (ev_isi2 (r1 := false) (r2 := false) (ev_var rfl d2') kit_ib kit_is)).to rfl) g1.s trivial fun b G2 H2 g2 _ e => ?_
    subst e
    have d1'' := dp_mono g2.g _ _ d1'
    have d2'' := dp_mono g2.g _ _ d2'
    exact st_ret (c := c0) (K := K) (G := G2) (φ := is (.bool true)) ((ev_andV (a := true) (b := true) (ev_isi (r := true) (ev_var rfl d1'') kit_ii) fun _ => (ev_andV (a := true) (b := true) ((ev_notV (ev_isi (r := false) (ev_var rfl d1'') kit_ib)).to rfl) fun _ => (ev_eqE (x := i) (y := i) enc_int (by omega) (ev_var rfl d1'') (ev_var rfl d2'')).to (by rw [decide_eq_true rfl])).to rfl).to rfl) g2.s trivial fun v d G3 H3 g3 _ dv e => by subst e; exact k v G3 H3 ((g1.trans g2).trans g3) dv
  · refine q_if (c := c0) (G := G) (φ := is true) (et_B (ev_isSq (ev_var rfl d2))) hs trivial fun b G1 H1 g1 _ e => ?_
    subst e
    have d1' := dp_mono g1.g _ _ d1
    have d2' := dp_mono g1.g _ _ d2
    have kl : ∃ r, kitB (tyN (sqD t ds)) "list" = some r := by
      cases t with
      | true => exact ⟨_, kit_tl⟩
      | false => exact ⟨_, kit_ll⟩
    have kt : ∃ r, kitB (tyN (sqD t ds)) "tuple" = some r := by
      cases t with
      | true => exact ⟨_, kit_tt⟩
      | false => exact ⟨_, kit_lt⟩
    obtain ⟨r1, kl⟩ := kl
    obtain ⟨r2, kt⟩ := kt
    refine q_if (c := c0) (G := G1) (φ := is false) (et_test ((ev_neS (x := .bl r1) (y := .bl r1) (ev_isi (ev_var rfl d1') kl) (ev_isi (ev_var rfl d2') kl) (fun G v h => dp_bool h) (fun G v h => dp_bool h) rfl).to (by rw [decide_eq_true rfl]; rfl))) g1.s trivial fun b G2 H2 g2 _ e => ?_
    subst e
    have d1'' := dp_mono g2.g _ _ d1'
    have d2'' := dp_mono g2.g _ _ d2'
    refine q_if (c := c0) (G := G2) (φ := is false) (et_test ((ev_neS (x := .bl r2) (y := .bl r2) (ev_isi (ev_var rfl d1'') kt) (ev_isi (ev_var rfl d2'') kt) (fun G v h => dp_bool h) (fun G v h => dp_bool h) rfl).to (by rw [decide_eq_true rfl]; rfl))) g2.s trivial fun b G3 H3 g3 _ e => ?_
    subst e
    have d13 := dp_mono g3.g _ _ d1''
    have d23 := dp_mono g3.g _ _ d2''
    have hz : zipD ds ds = ds.map fun e => .tuple [e, e] := by
      unfold zipD
      clear hl hS d1 d2 d1' d2' d1'' d2'' d13 d23 kl kt ha k
      induction ds with
      | nil => rfl
      | cons e ds ih => rw [List.zip_cons_cons, List.map_cons, ih]; rfl
    refine st_ret (c := c0) (K := K) (G := G3) (φ := is (.bool true)) ((ev_andV (a := true) (b := true) ((ev_eqS (x := .int (ds.length : Nat)) (y := .int (ds.length : Nat)) (ev_len (ev_var rfl d13)) (ev_len (ev_var rfl d23)) (fun G v h => dp_int h) (fun G v h => dp_int h) rfl).to (by rw [decide_eq_true rfl])) fun _ => (ev_all (bs := ds.map fun _ => true) ((ev_lc (fun e : PyData => PyData.tuple [e, e]) ds (fun _ => true) (fun _ => .bool true) ((es_zip (t := t) (ea_cons (ev_var rfl d13) (ea_cons (ev_var rfl d23) ea_nil))).imp0 hz) (by omega) fun e G4 v he s4 dv => ?_).to ?_)).to ?_).to rfl) g3.s trivial fun v d G4 H4 g4 _ dv e => by subst e; exact k v G4 H4 (((g1.trans g2).trans g3).trans g4) dv
    · exact lct_pair dv (fun _ _ => rfl) (fun _ _ _ _ => et_yes) fun u1 u2 h1 h2 _ => ev_call e (ea_cons (ev_var rfl h1) (ea_cons (ev_var rfl h2) ea_nil)) (hS e he)
    · rw [List.filter_eq_self.mpr fun _ _ => rfl, List.map_map]
      rfl
    · refine congrArg PyData.bool (List.all_eq_true.mpr fun b hb => ?_)
      obtain ⟨_, _, rfl⟩ := List.mem_map.mp hb
      rfl
end
end Mk
/-! ## MkW13 -/
set_option autoImplicit true
set_option Elab.async false
set_option linter.all false
set_option maxRecDepth 100000
set_option maxHeartbeats 4000000
namespace Mk
open PySem PySem.Spec PyProof.Rows L2 MkM
/-- the law's least rows -/
def lawLeast (ls : List Wd) : List Wd := (inO ls).filter fun r => decide (((inO ls).filter fun o => !decide (o = r) && isPart o r) = [])
theorem lawLeast_base (ls : List Wd) : Base OStr (lawLeast ls) where
  inc := List.Pairwise.filter _ (inc_inOrder OStr ls)
  anti v hv u hu s := by
    refine Classical.byContradiction fun ne => ?_
    have h := of_decide_eq_true (List.mem_filter.mp hu).2
    have : v ∈ (inO ls).filter fun o => !decide (o = u) && isPart o u := List.mem_filter.mpr ⟨(List.mem_filter.mp hv).1, by rw [decide_eq_false ne, (isPart_iff v u).mpr s]; rfl⟩
    rw [h] at this
    cases this
theorem lawLeast_mem {ls : List Wd} {x : Wd} (h : x ∈ lawLeast ls) : x ∈ ls := (mem_inOrder OStr x ls).mp (List.mem_filter.mp h).1
section
variable {P : Program} {w : World} {K : PySem.W.Frag} {mg : Str → Option Value} {base : Heap}
theorem ok_same (T : Txt K mg) : ∀ n : Nat, Callee P w K mg base (n + 1) "_law_same" ["_law_got", "_law_due"] (spSame K n)
  | 0 => by
    have C0 : Callee P w K mg base 0 "_law_same" ["_law_got", "_law_due"] (spP K (fun d : PyData => [d, d]) (fun _ => False) (fun _ => .bool true)) := by
      obtain ⟨fd, F⟩ := T.f_l_same
      exact ⟨_, fd, ⟨fun _ _ _ _ ⟨_, _, _, _, h, _⟩ => h.elim, fun _ _ _ _ _ _ _ _ _ _ _ _ _ ⟨_, _, _, _, h, _⟩ => h.elim⟩, T.g_l_same, F.kp, F.bindsN bd_l_same⟩
    exact (ok_same_gen T C0).imp fun vs H Q E ⟨d, G, s, a, p, k⟩ => ⟨d, G, s, a, .inl p, k⟩
  | n + 1 => (ok_same_gen T (ok_same T n)).imp fun vs H Q E h => h
theorem same_wd (n : Nat) (l : Wd) (hl : l.length ≤ 1000) : SameIn (n + 1) (wd l) := .inr ⟨true, _, rfl, by rw [List.length_map]; exact hl, fun e he => by
  obtain ⟨x, _, rfl⟩ := List.mem_map.mp he
  cases n with
  | zero => exact .inl ⟨x, rfl⟩
  | succ n => exact .inl (.inl ⟨x, rfl⟩)⟩
theorem same_bs (n : Nat) (b : List Wd) (hb : b.length ≤ 1000) (hl : ∀ l ∈ b, l.length ≤ 1000) : SameIn (n + 2) (bsD true b) := .inr ⟨true, _, rfl, by rw [List.length_map]; exact hb, fun e he => by
  obtain ⟨l, h, rfl⟩ := List.mem_map.mp he
  exact same_wd n l (hl l h)⟩
/-! ### _law_lies -/
-- slots: 0 _law_verse, 1 _law_row, 2 _law_at_so, 3 _law_own
abbrev N_l_lies : List Str := ["_law_verse", "_law_row", "_law_at_so", "_law_own"]
theorem sc_l_lies : FnScope N_l_lies ["_law_verse", "_law_row"] (defScope st_l_lies) := ⟨rfl, rfl, rfl, by decide +kernel, rfl, by decide +kernel, by decide +kernel⟩
theorem bd_l_lies : BindOk "_law_lies" "_law_lies" st_l_lies ["_law_verse", "_law_row"] := fun _ _ _ _ _ _ us hl => match us, hl with | [_, _], _ => rfl
abbrev spLies (K : PySem.W.Frag) : Sp := spP K (fun i : Wd × Wd => [wd i.1, wd i.2]) (fun _ => True) (fun i => .bool (isPart i.1 i.2))
theorem ok_l_lies (T : Txt K mg) : Callee P w K mg base 1 "_law_lies" ["_law_verse", "_law_row"] (spLies K) := by
  refine callee_of T.f_l_lies T.g_l_lies sc_l_lies bd_l_lies (spP_len fun _ => rfl) fun cdv A outer s H vs Q E hr h => ?_
  obtain ⟨⟨wo, lg⟩, G, hs, ha, _, k⟩ := h
  obtain ⟨v1, v2, rfl, d1, d2⟩ := dpa_two ha
  refine ⟨_, (pss_cons (ps_set (i := 2) sc_l_lies.nd rfl (by first | exact Or.inl rfl | exact Or.inr rfl) pe_int)
        (pss_cons (ps_for PassesOwn.never rfl (k_pi_sq (K := K) rfl (pv 1)) (pg_name (i := 3) sc_l_lies.nd rfl (by first | exact Or.inl rfl | exact Or.inr rfl)) (pss_one (ps_set (i := 2) sc_l_lies.nd rfl (by first | exact Or.inl rfl | exact Or.inr rfl) (pe_op op_add (pv 2) (pe_callTy (T := "int") call_int1 (by rfl) T.b_int (by decide +kernel) (pa_cons (pe_and (pe_cmpR op_lt (pv 2) (pe_callB (id := "len") (k_len (K := K) rfl) (by rfl) T.b_len (by decide +kernel) (pa_cons (pv 0) pa_nil)) (nomark _)) (pe_one (pe_cmpR (op_eq) (pe_ix (k_ixT (K := K) rfl) (pv 0) (pv 2) (fun _ _ => rfl)) (pv 3) (nomark _)))) pa_nil))))))
        (pss_one (ps_ret (pe_cmpR (op_eq) (pv 2) (pe_callB (id := "len") (k_len (K := K) rfl) (by rfl) T.b_len (by decide +kernel) (pa_cons (pv 0) pa_nil)) (nomark _)))))), ?_⟩
  refine q_asg (c := c0) (K := K) (G := G) (φ := is (.int ((0 : Nat) : Int))) ev_int hs trivial fun v3 d3 G0' H0' g0 _ dv3 e => ?_
  subst e
  refine q_forI (c := c0) (G := G0') PyData.str lg (es_T (ev_var rfl (dp_mono g0.g _ _ d2))) g0.s trivial
    (fun i σ' G' H' => Grow B0 G H G' H' ∧ ∃ u y3, Dp K G' u (.int (begunFrom wo 0 (lg.take i) : Nat)) ∧ σ' = [some v1, some v2, some u, y3])
    (fun G1 H1 g _ => ⟨Grow.trans g0 g, v3, none, dp_mono g.g _ _ dv3, rfl⟩) (fun i σ' G' H' h => h.1.s) ?_ ?_
  · rintro G0 hG i x σ' G' H' hx s0 ⟨g, u, y3, du, rfl⟩ v G1 H1 g1 dv
    refine ⟨_, tg_name, ?_⟩
    have d1' : Dp K G1 v1 (wd wo) := dp_mono (g.trans g1).g _ _ d1
    have du' := dp_mono g1.g _ _ du
    generalize hm : begunFrom wo 0 (lg.take i) = m at du'
    have hnext : begunFrom wo 0 (lg.take (i + 1)) = if wo[m]? = some x then m + 1 else m := by
      rw [take_succ' hx]
      unfold begunFrom at hm ⊢
      rw [List.foldl_append, hm]
      rfl
    refine st_asg (c := c0) (K := K) (G := G1) (φ := is (.int (begunFrom wo 0 (lg.take (i + 1)) : Nat))) ((ev_I0 (d := .int ((m : Int) + (if decide (wo[m]? = some x) then 1 else 0))) (ev_var rfl du') (ev_intB (k := decide (wo[m]? = some x)) ((ev_andV (a := decide (m < wo.length)) (b := decide (wo[m]? = some x)) ((ev_I0 (ev_var rfl du') (ev_lenT (ev_var rfl d1')) (fun _ => .bl _)).to ?_) fun hlt => ?_).to ?_)) (fun _ => .int _)).to ?_) g1.s trivial fun v4 d4 G2 H2 g2 _ dv4 e => ?_
    · rw [List.length_map]
      exact congrArg PyData.bool (decide_eq_decide.mpr (by omega))
    · have hlt' : m < wo.length := of_decide_eq_true hlt
      refine (ev_eqS (x := .str wo[m]) (y := .str x) (ev_ixT (d := .str wo[m]) (ev_var rfl d1') (ev_var rfl du') ?_) (ev_var rfl dv) (fun G v h => dp_str h) (fun G v h => dp_str h) rfl).to ?_
      · rw [List.getElem?_map, List.getElem?_eq_getElem hlt']
        rfl
      · rw [List.getElem?_eq_getElem hlt']
        exact congrArg PyData.bool (decide_eq_decide.mpr ⟨fun e => by injection e with e; rw [e], fun e => by rw [Option.some.inj e]⟩)
    · by_cases e : wo[m]? = some x
      · have : m < wo.length := (List.getElem?_eq_some_iff.mp e).1
        rw [decide_eq_true e, decide_eq_true this]
        rfl
      · rw [decide_eq_false e, Bool.and_false]
    · rw [hnext]
      by_cases e : wo[m]? = some x
      · rw [if_pos e, decide_eq_true e, if_pos rfl, Int.natCast_add]
        rfl
      · rw [if_neg e, decide_eq_false e, if_neg Bool.false_ne_true, Int.add_zero]
    · subst e
      exact ⟨G2, (s0.trans g1.g).trans g2.g, (g.trans g1).trans g2, v4, some v, dv4, rfl⟩
  · rintro σ' G' H' sg ⟨g, u, y3, du, rfl⟩
    rw [List.take_length] at du
    refine st_ret (c := c0) (K := K) (G := G') (φ := is (.bool (isPart wo lg))) ((ev_eqS (x := .int (begun wo lg : Nat)) (y := .int (wo.length : Nat)) (ev_var rfl du) ((ev_lenT (ev_var rfl (dp_mono g.g _ _ d1))).to (by rw [List.length_map])) (fun G v h => dp_int h) (fun G v h => dp_int h) rfl).to ?_) g.s trivial fun v d G1 H1 g1 _ dv e => by subst e; exact k v G1 H1 (g.trans g1) dv
    unfold isPart
    exact congrArg PyData.bool (decide_eq_decide.mpr ⟨fun e => by injection e with e; omega, fun e => by rw [e]⟩)
/-! ### _law_done, _law_within -/
-- slots: 0 _law_words_so, 1 _law_row*, 2 _law_own
abbrev N_l_done : List Str := ["_law_words_so", "_law_row", "_law_own"]
theorem sc_l_done : FnScope N_l_done ["_law_words_so", "_law_row"] (defScope st_l_done) := ⟨rfl, rfl, rfl, by decide +kernel, rfl, by decide +kernel, by decide +kernel⟩
theorem bd_l_done : BindOk "_law_done" "_law_done" st_l_done ["_law_words_so", "_law_row"] := fun _ _ _ _ _ _ us hl => match us, hl with | [_, _], _ => rfl
abbrev spDone (K : PySem.W.Frag) : Sp := spP K (fun i : List Wd × Wd => [bsD true i.1, wd i.2]) (fun i => i.1.length ≤ 100000) (fun i => .bool (does i.1 i.2))
theorem ok_l_done (T : Txt K mg) : Callee P w K mg base 2 "_law_done" ["_law_words_so", "_law_row"] (spDone K) := by
  have C_l_lies : Callee P w K mg base 1 "_law_lies" ["_law_verse", "_law_row"] (spLies K) := ok_l_lies T
  refine callee_of T.f_l_done T.g_l_done sc_l_done bd_l_done (spP_len fun _ => rfl) fun cdv A outer s H vs Q E hr h => ?_
  obtain ⟨⟨b, l⟩, G, hs, ha, hl, k⟩ := h
  obtain ⟨v1, v2, rfl, d1, d2⟩ := dpa_two ha
  refine ⟨_, (pss_one (ps_ret (pe_cmpR (k_neP (K := K) rfl (Rm65 hr)) (pe_lc (own := [("_law_own", 2)]) rfl sc_l_done.nd (k_pi_sq (K := K) rfl (pv 0)) (blkOk_by (by kernel_rfl)) (fun _ _ _ _ _ => (pg_name (i := 2) sc_l_done.nd rfl (by first | exact Or.inl rfl | exact Or.inr rfl))) (fun _ _ _ _ _ => pts_one (pt_val (pe_callC C_l_lies hr (by omega) rfl (pa_cons (pv 2) (pa_cons (pv 1) pa_nil))))) (fun _ _ _ _ _ => (pv 2))) (pe_lst pa_nil) (nomark _)))), ?_⟩
  refine st_ret (c := c0) (K := K) (G := G) (φ := is (.bool (does b l))) ((ev_neE (x := b.filter fun o => isPart o l) (y := ([] : List Wd)) (enc_bs false) (by omega) (ev_pick wd b (fun o => isPart o l) wd (es_T (ev_var rfl d1)) hl (fun _ => rfl) (fun x G1 v hx s1 dv => ?_) fun x G1 v hx s1 dv _ => ev_var rfl dv) (ev_lstX ex_nil (by simp))).to ?_) hs trivial fun v d G1 H1 g1 _ dv e => by subst e; exact k v G1 H1 g1 dv
  · exact et_B (ev_call (x, l) (ea_cons (ev_var rfl dv) (ea_cons (ev_var rfl (dp_mono s1 _ _ d2)) ea_nil)) trivial)
  · refine congrArg PyData.bool ?_
    rw [Bool.eq_iff_iff, Bool.not_eq_true', decide_eq_false_iff_not]
    unfold does
    rw [List.any_eq_true]
    constructor
    · intro h
      rcases Classical.em (∃ x ∈ b, isPart x l = true) with q | q
      · exact q
      · exact absurd (List.filter_eq_nil_iff.mpr fun x hx p => q ⟨x, hx, p⟩) h
    · rintro ⟨x, hx, p⟩ e
      have : x ∈ b.filter fun o => isPart o l := List.mem_filter.mpr ⟨hx, p⟩
      rw [e] at this
      cases this
-- slots: 0 _law_words_so, 1 _law_others_so*, 2 _law_own
abbrev N_l_within : List Str := ["_law_words_so", "_law_others_so", "_law_own"]
theorem sc_l_within : FnScope N_l_within ["_law_words_so", "_law_others_so"] (defScope st_l_within) := ⟨rfl, rfl, rfl, by decide +kernel, rfl, by decide +kernel, by decide +kernel⟩
theorem bd_l_within : BindOk "_law_within" "_law_within" st_l_within ["_law_words_so", "_law_others_so"] := fun _ _ _ _ _ _ us hl => match us, hl with | [_, _], _ => rfl
abbrev spWithin (K : PySem.W.Frag) : Sp := spP K (fun i : List Wd × List Wd => [bsD true i.1, bsD true i.2]) (fun i => i.1.length ≤ 100000 ∧ i.2.length ≤ 100000) (fun i => .bool (i.1.all fun l => does i.2 l))
theorem ok_l_within (T : Txt K mg) : Callee P w K mg base 3 "_law_within" ["_law_words_so", "_law_others_so"] (spWithin K) := by
  have C_l_done : Callee P w K mg base 2 "_law_done" ["_law_words_so", "_law_row"] (spDone K) := ok_l_done T
  refine callee_of T.f_l_within T.g_l_within sc_l_within bd_l_within (spP_len fun _ => rfl) fun cdv A outer s H vs Q E hr h => ?_
  obtain ⟨⟨b, o⟩, G, hs, ha, ⟨hl, hl2⟩, k⟩ := h
  obtain ⟨v1, v2, rfl, d1, d2⟩ := dpa_two ha
  refine ⟨_, (pss_one (ps_ret (pe_callB (id := "all") (k_all (K := K) rfl rfl) (by rfl) T.b_all (by decide +kernel) (pa_cons (pe_lc (own := [("_law_own", 2)]) rfl sc_l_within.nd (k_pi_sq (K := K) rfl (pv 0)) (blkOk_by (by kernel_rfl)) (fun _ _ _ _ _ => (pg_name (i := 2) sc_l_within.nd rfl (by first | exact Or.inl rfl | exact Or.inr rfl))) (fun _ _ _ _ _ => pts_nil) (fun _ _ _ _ _ => (pe_callC C_l_done hr (by omega) rfl (pa_cons (pv 1) (pa_cons (pv 2) pa_nil))))) pa_nil)))), ?_⟩
  exact st_ret (c := c0) (K := K) (G := G) (φ := is (.bool (b.all fun l => does o l))) (ev_allMap wd b (fun l => does o l) (es_T (ev_var rfl d1)) hl (fun _ => rfl) fun x G1 v hx s1 dv => ev_call (o, x) (ea_cons (ev_var rfl (dp_mono s1 _ _ d2)) (ea_cons (ev_var rfl dv) ea_nil)) hl2) hs trivial fun v d G1 H1 g1 _ dv e => by subst e; exact k v G1 H1 g1 dv
/-! ### _law_sorted, _law_least -/
-- slots: 0 _law_rows, 1 _law_size_so, 2 _law_own, 3 _law_row
abbrev N_l_sorted : List Str := ["_law_rows", "_law_size_so", "_law_own", "_law_row"]
theorem sc_l_sorted : FnScope N_l_sorted ["_law_rows"] (defScope st_l_sorted) := ⟨rfl, rfl, rfl, by decide +kernel, rfl, by decide +kernel, by decide +kernel⟩
theorem bd_l_sorted : BindOk "_law_sorted" "_law_sorted" st_l_sorted ["_law_rows"] := fun _ _ _ _ _ _ us hl => match us, hl with | [_], _ => rfl
abbrev spLSorted (K : PySem.W.Frag) : Sp := spP K (fun i : Bool × List Wd => [bsD i.1 i.2]) (fun i => i.2.length < 64) (fun i => bsD true (inO i.2))
theorem ok_l_sorted (T : Txt K mg) : Callee P w K mg base 1 "_law_sorted" ["_law_rows"] (spLSorted K) := by
  refine callee_of T.f_l_sorted T.g_l_sorted sc_l_sorted bd_l_sorted (spP_len fun _ => rfl) fun cdv A outer s H vs Q E hr h => ?_
  obtain ⟨⟨t, ls⟩, G, hs, ha, hl, k⟩ := h
  have hl : ls.length < 64 := hl
  have hi := inO_len ls
  obtain ⟨v1, rfl, d1⟩ := dpa_one ha
  refine ⟨_, (pss_one (ps_ret (pe_callTy (T := "tuple") (k_tuple (K := K) rfl) (by rfl) T.b_tuple (by decide +kernel) (pa_cons (pe_lc (own := [("_law_size_so", 1), ("_law_own", 2)]) rfl sc_l_sorted.nd (k_pi_sq (K := K) rfl (pe_callB (id := "sorted") (k_sortedSet (K := K) (P := P) (w := w) rfl rfl rfl rfl (Rm65 hr)) (by rfl) T.b_sorted (by decide +kernel) (pa_cons (pe_callTy (T := "set") (k_setN (K := K) (P := P) (w := w) rfl rfl rfl rfl (Rm65 hr)) (by rfl) T.b_set (by decide +kernel) (pa_cons (pe_lc (own := [("_law_row", 3)]) rfl sc_l_sorted.nd (k_pi_sq (K := K) rfl (pv 0)) (blkOk_by (by kernel_rfl)) (fun _ _ _ _ _ => (pg_name (i := 3) sc_l_sorted.nd rfl (by first | exact Or.inl rfl | exact Or.inr rfl))) (fun _ _ _ _ _ => pts_nil) (fun _ _ _ _ _ => (pe_tup (pa_cons (pe_callB (id := "len") (k_len (K := K) rfl) (by rfl) T.b_len (by decide +kernel) (pa_cons (pv 3) pa_nil)) (pa_cons (pv 3) pa_nil))))) pa_nil)) pa_nil))) (blkOk_by (by kernel_rfl)) (fun _ _ _ _ _ => (k_pg_tup (K := K) (n := 2) rfl rfl (pgs_cons (pg_name (i := 1) sc_l_sorted.nd rfl (by first | exact Or.inl rfl | exact Or.inr rfl)) (pgs_cons (pg_name (i := 2) sc_l_sorted.nd rfl (by first | exact Or.inl rfl | exact Or.inr rfl)) pgs_nil)))) (fun _ _ _ _ _ => pts_nil) (fun _ _ _ _ _ => (pv 2))) pa_nil)))), ?_⟩
  refine st_ret (c := c0) (K := K) (G := G) (φ := is (bsD true (inO ls))) (ev_tupleL (ds := (inO ls).map wd) ?_) hs trivial fun v d G1 H1 g1 _ dv e => by subst e; exact k v G1 H1 g1 dv
  refine (ev_lc pairD (inO ls) (fun _ => true) wd (es_L (ev_sortedSet (ev_map wd ls pairD (es_sq (ev_var rfl d1)) (by omega) (fun _ => rfl) fun x G1 v hx s1 dv => ?_) hl)) (by omega) fun x G1 v hx s1 dv => ?_).to ?_
  · exact (ev_tup2 (ev_lenT (ev_var rfl dv)) (ev_var rfl dv)).to (by rw [List.length_map]; rfl)
  · exact lct_pair dv (fun _ _ => rfl) (fun v1 v2 _ _ => et_yes) fun v1 v2 h1 h2 _ => ev_var rfl h2
  · rw [List.filter_eq_self.mpr fun _ _ => rfl]
-- slots: 0 _law_rows*, 1 _law_row, 2 _law_own
abbrev N_l_least : List Str := ["_law_rows", "_law_row", "_law_own"]
theorem sc_l_least : FnScope N_l_least ["_law_rows"] (defScope st_l_least) := ⟨rfl, rfl, rfl, by decide +kernel, rfl, by decide +kernel, by decide +kernel⟩
theorem bd_l_least : BindOk "_law_least" "_law_least" st_l_least ["_law_rows"] := fun _ _ _ _ _ _ us hl => match us, hl with | [_], _ => rfl
abbrev spLLeast (K : PySem.W.Frag) : Sp := spP K (fun i : Bool × List Wd => [bsD i.1 i.2]) (fun i => i.2.length < 64) (fun i => bsD true (lawLeast i.2))
theorem ok_l_least (T : Txt K mg) : Callee P w K mg base 2 "_law_least" ["_law_rows"] (spLLeast K) := by
  have C_l_lies : Callee P w K mg base 1 "_law_lies" ["_law_verse", "_law_row"] (spLies K) := ok_l_lies T
  have C_l_sorted : Callee P w K mg base 1 "_law_sorted" ["_law_rows"] (spLSorted K) := ok_l_sorted T
  refine callee_of T.f_l_least T.g_l_least sc_l_least bd_l_least (spP_len fun _ => rfl) fun cdv A outer s H vs Q E hr h => ?_
  obtain ⟨⟨t, ls⟩, G, hs, ha, hl, k⟩ := h
  have hl : ls.length < 64 := hl
  have hi := inO_len ls
  obtain ⟨v1, rfl, d1⟩ := dpa_one ha
  refine ⟨_, (pss_cons (ps_set (i := 0) sc_l_least.nd rfl (by first | exact Or.inl rfl | exact Or.inr rfl) (pe_callC C_l_sorted hr (by omega) rfl (pa_cons (pv 0) pa_nil)))
        (pss_one (ps_ret (pe_callTy (T := "tuple") (k_tuple (K := K) rfl) (by rfl) T.b_tuple (by decide +kernel) (pa_cons (pe_lc (own := [("_law_row", 1)]) rfl sc_l_least.nd (k_pi_sq (K := K) rfl (pv 0)) (blkOk_by (by kernel_rfl)) (fun _ _ _ _ _ => (pg_name (i := 1) sc_l_least.nd rfl (by first | exact Or.inl rfl | exact Or.inr rfl))) (fun _ _ _ _ _ => pts_one (pt_cmpR (k_eqP (K := K) rfl (Rm65 hr)) (pe_lc (own := [("_law_own", 2)]) rfl sc_l_least.nd (k_pi_sq (K := K) rfl (pv 0)) (blkOk_by (by kernel_rfl)) (fun _ _ _ _ _ => (pg_name (i := 2) sc_l_least.nd rfl (by first | exact Or.inl rfl | exact Or.inr rfl))) (fun _ _ _ _ _ => pts_one (PW.pt (pw_and (pt_cmpR (k_neP (K := K) rfl (Rm65 hr)) (pv 2) (pv 1) (nomark _)) (pw_and1 (pt_val (pe_callC C_l_lies hr (by omega) rfl (pa_cons (pv 2) (pa_cons (pv 1) pa_nil)))))))) (fun _ _ _ _ _ => (pv 2))) (pe_lst pa_nil) (nomark _))) (fun _ _ _ _ _ => (pv 1))) pa_nil))))), ?_⟩
  refine q_asg (c := c0) (K := K) (G := G) (φ := is (bsD true (inO ls))) (ev_call (t, ls) (ea_cons (ev_var rfl d1) ea_nil) hl) hs trivial fun v2 d2 G1 H1 g1 _ dv2 e => ?_
  subst e
  refine st_ret (c := c0) (K := K) (G := G1) (φ := is (bsD true (lawLeast ls))) (ev_tupleL (ds := (lawLeast ls).map wd) (ev_pick wd (inO ls) (fun r => decide (((inO ls).filter fun o => !decide (o = r) && isPart o r) = [])) wd (es_T (ev_var rfl dv2)) (by omega) (fun _ => rfl) (fun r G2 v hx s2 dv => ?_) fun x G2 v hx s2 dv _ => ev_var rfl dv)) g1.s trivial fun v d G2 H2 g2 _ dv e => by subst e; exact k v G2 H2 (g1.trans g2) dv
  refine et_test (ev_eqE (x := (inO ls).filter fun o => !decide (o = r) && isPart o r) (y := ([] : List Wd)) (enc_bs false) (by omega) (ev_pick wd (inO ls) (fun o => !decide (o = r) && isPart o r) wd (es_T (ev_var rfl (dp_mono s2 _ _ dv2))) (by omega) (fun _ => rfl) (fun o G3 v3 ho s3 dv3 => ?_) fun x G3 v3 hx s3 dv3 _ => ev_var rfl dv3) (ev_lstX ex_nil (by simp)))
  have dv' := dp_mono s3 _ _ dv
  exact et_and (et_test (ev_neE enc_wd (by omega) (ev_var rfl dv3) (ev_var rfl dv'))) fun _ => et_B (ev_call (o, r) (ea_cons (ev_var rfl dv3) (ea_cons (ev_var rfl dv') ea_nil)) trivial)
/-! ### _law_again -/
-- slots: 0 _law_tags, 1 _law_size_so, 2 _law_hidden, 3 _law_rows, 4 _law_finder, 5 _law_row
abbrev N_l_again : List Str := ["_law_tags", "_law_size_so", "_law_hidden", "_law_rows", "_law_finder", "_law_row"]
theorem sc_l_again : FnScope N_l_again ["_law_tags", "_law_size_so", "_law_hidden", "_law_rows"] (defScope st_l_again) := ⟨rfl, rfl, rfl, by decide +kernel, rfl, by decide +kernel, by decide +kernel⟩
theorem bd_l_again : BindOk "_law_again" "_law_again" st_l_again ["_law_tags", "_law_size_so", "_law_hidden", "_law_rows"] := fun _ _ _ _ _ _ us hl => match us, hl with | [_, _, _, _], _ => rfl
abbrev spAgain (K : PySem.W.Frag) : Sp := spP K (fun i : List Str × Nat × List Wd × List Wd => [wd i.1, .int (i.2.1 : Int), bsD true i.2.2.1, bsD true i.2.2.2]) (fun i => Case i.1 i.2.1 i.2.2.1 ∧ i.2.2.2.length ≤ 400 ∧ ∀ l ∈ i.2.2.2, ∀ x ∈ l, x ∈ i.1) (fun i => optBs (after i.1 i.2.1 i.2.2.1 i.2.2.2).found)
theorem ok_l_again (T : Txt K mg) : Callee P w K mg base 7 "_law_again" ["_law_tags", "_law_size_so", "_law_hidden", "_law_rows"] (spAgain K) := by
  have C_l_done : Callee P w K mg base 2 "_law_done" ["_law_words_so", "_law_row"] (spDone K) := ok_l_done T
  have C_F_init : MkCallee P w K mg base 2 (FC K) ["self", "names", "most"] (spInit K) := ok_F_init T
  have C_F_answered : MCallee P w K mg base 5 (FC K) "answered" ["self", "log", "done"] (spAnswered K) := ok_F_answered T
  have C_F_found : MCallee P w K mg base 6 (FC K) "found" ["self"] (spFound K) := ok_F_found T
  refine callee_of T.f_l_again T.g_l_again sc_l_again bd_l_again (spP_len fun _ => rfl) fun cdv A outer s H vs Q E hr hh => ?_
  obtain ⟨⟨names, most, h, logs⟩, G, hs, ha, ⟨c, hll, hlx⟩, k⟩ := hh
  have c : Case names most h := c
  have hll : logs.length ≤ 400 := hll
  have hlx : ∀ l ∈ logs, ∀ x ∈ l, x ∈ names := hlx
  have hlen := case_len c
  obtain ⟨v1, v2, v3, v4, rfl, d1, d2, d3, d4⟩ := dpa_four ha
  refine ⟨_, (pss_cons (ps_set (i := 4) sc_l_again.nd rfl (by first | exact Or.inl rfl | exact Or.inr rfl) (pe_makeC C_F_init hr (by omega) rfl T.g_Finder (pa_cons (pv 0) (pa_cons (pv 1) pa_nil))))
        (pss_cons (ps_for PassesOwn.never rfl (k_pi_sq (K := K) rfl (pv 3)) (pg_name (i := 5) sc_l_again.nd rfl (by first | exact Or.inl rfl | exact Or.inr rfl)) (pss_one (ps_expr (pe_methC C_F_answered (pv 4) T.cl hr (by omega) (pa_cons (pv 5) (pa_cons (pe_callC C_l_done hr (by omega) rfl (pa_cons (pv 2) (pa_cons (pv 5) pa_nil))) pa_nil))))))
        (pss_one (ps_ret (pe_methC0 C_F_found (pv 4) T.cl hr (by omega)))))), ?_⟩
  refine q_make (c := c0) (K := K) (G := G) (names := names) (most := most) (ea_cons (ev_var rfl d1) (ea_cons (ev_var rfl d2) ea_nil)) hs trivial c.n3 c.m3 fun a G1 H1 hna g1 _ F1 => ?_
  refine q_forI (c := c0) (G := G1) wd logs (es_T (ev_var rfl (dp_mono g1.g _ _ d4))) g1.s trivial
    (fun i σ' G' H' => Grow B0 G H G' H' ∧ FinAt K a (after names most h (logs.take i)) G' H' ∧ ∃ y5, σ' = [some v1, some v2, some v3, some v4, some (.ref a), y5])
    (fun G2 H2 g _ => ⟨Grow.trans g1 g, F1.grow0 g, none, rfl⟩) (fun i σ' G' H' q => q.1.s) ?_ ?_
  · rintro G0 hG i l σ' G' H' hl s0 ⟨g, F, y5, rfl⟩ v G2 H2 g2 dv
    refine ⟨_, tg_name, ?_⟩
    have F2 := F.grow0 g2
    have hlt : (logs.take i).length ≤ 400 := by
      rw [List.length_take]
      omega
    have hok := after_ok c (ls := logs.take i) (by omega)
    have hid := after_hid c (logs.take i)
    have hasks : (after names most h (logs.take i)).asks.length ≤ 0 + (logs.take i).length := asked_len (h := h) (logs.take i) (f := fd0 names most)
    have hnm : (after names most h (logs.take i)).names = names := (asked_names (h := h) _ (f := fd0 names most)).1
    refine st_answered (c := c0) (l := l) (b := does h l) (Q := fun _ H1 => ∃ G'', Same G0 G'' ∧ _) rfl F2 (fun fs hfd => ea_cons (ev_var rfl dv) (ea_cons (ev_call (h, l) (ea_cons (ev_var rfl (dp_mono (g.trans g2).g _ _ d3)) (ea_cons (ev_var rfl dv) ea_nil)) (by show h.length ≤ 100000; omega)) ea_nil)) g2.s trivial (fun z => z) hok (put_ok hok (by omega)) (fun x hx => by rw [hnm]; exact hlx l (List.mem_of_getElem? hl) x hx) (hid.put l).near_ne fun G3 H3 gr keep _ F3 s3 t3 => ?_
    refine ⟨G3, (s0.trans g2.g).trans s3, gr G H (g.trans g2) hna, ?_, some v, rfl⟩
    rw [take_succ' hl, after, asked_snoc]
    exact F3
  · rintro σ' G' H' sg ⟨g, F, y5, rfl⟩
    rw [List.take_length] at F
    obtain ⟨nF, dx, fs, hx, hfd⟩ := F.ex
    have hok := after_ok c (ls := logs) (by omega)
    exact st_ret (c := cF c0 K a fs) (K := K) (G := G') (φ := is (optBs (after names most h logs).found)) (ev_meth () rfl hfd hok (by decide +kernel) ea_nil trivial) g.s ⟨trivial, dx, hx⟩ fun v d G3 H3 g3 _ dv e => by subst e; exact k v G3 H3 (Grow.trans g g3) dv
end
end Mk
/-! ## MkW14 -/
set_option autoImplicit true
set_option Elab.async false
set_option linter.all false
set_option maxRecDepth 100000
set_option maxHeartbeats 4000000
namespace Mk
open PySem PySem.Spec PyProof.Rows L2 MkM
section
variable {c : Ctx} {K : PySem.W.Frag} {σ : St} {G H : Hp} {ds es : List PyData} {ta tb te : TE} {tz : TS} {D : Ends} {b : Addr} {n : Nat} {φ : PyData → Prop}
theorem ev_catT (ha : Ev c K ta σ G (is (.tuple ds))) (hb : Ev c K tb σ G (is (.tuple es))) (hl : ds.length + es.length ≤ 100000) : Ev c K (tOp (rCatA K) ta tb) σ G (is (.tuple (ds ++ es))) :=
  ev_opN ha hb fun G1 H1 x y d e s1 h1 h2 p1 p2 Q q => by
    subst p1 p2
    obtain ⟨a, xs, rfl, h3, h4⟩ := dp_tup h1
    obtain ⟨b, ys, rfl, h5, h6⟩ := dp_tup h2
    refine ⟨a, b, xs, ys, rfl, rfl, Same.sqT s1 h3, Same.sqT s1 h5, by rw [dpa_len h4, dpa_len h6]; exact Nat.le_trans hl (by decide), fun e => ?_, fun _ e => ?_, fun _ _ p hp => ?_⟩
    · subst e
      have hz : ds = [] := List.length_eq_zero_iff.mp (dpa_len h4).symm
      subst hz
      exact q _ _ G1 H1 (Grow.refl s1) h2 rfl
    · subst e
      have hz : es = [] := List.length_eq_zero_iff.mp (dpa_len h6).symm
      subst hz
      rw [List.append_nil] at q
      exact q _ _ G1 H1 (Grow.refl s1) h1 rfl
    · exact q _ _ _ _ (Grow.new s1 hp) (.tup (.inl (.inl upd_same)) (dpa_mono (same_new (s1.free hp)) _ _ (dpa_app h4 h6))) rfl
/-- x = a draw, and what follows -/
theorem q_asgN {i N : Nat} (h : EvN K b n te σ G φ) (hN : N + n ≤ LIM) (s : Same G H) (h0 : G b = none) (hb : BoxAt b N H) (k : ∀ v d G1 H1, Grow (fun a => a = b) G H G1 H1 → G1 b = none → BoxAt b (N + n) H1 → Dp K G1 v d → φ d → tz D (σ.set i (some v)) H1) : tSeq (tAsg te (gName i)) tz D σ H := h N G H hN (Same.refl G) s h0 hb _ k
end
section
variable {P : Program} {w : World} {K : PySem.W.Frag} {mg : Str → Option Value} {base : Heap}
/-! ### _law_paper_right -/
-- slots: 0 _law_tags, 1 _law_size_so, 2 _law_hidden*, 3 _law_many, 4 _law_rows, 5 _law_yes, 6 _law_k, 7 _law_some, 8 _law_row
abbrev N_l_paper_right : List Str := ["_law_tags", "_law_size_so", "_law_hidden", "_law_many", "_law_rows", "_law_yes", "_law_k", "_law_some", "_law_row"]
theorem sc_l_paper_right : FnScope N_l_paper_right ["_law_tags", "_law_size_so", "_law_hidden", "_law_many"] (defScope st_l_paper_right) := ⟨rfl, rfl, rfl, by decide +kernel, rfl, by decide +kernel, by decide +kernel⟩
theorem bd_l_paper_right : BindOk "_law_paper_right" "_law_paper_right" st_l_paper_right ["_law_tags", "_law_size_so", "_law_hidden", "_law_many"] := fun _ _ _ _ _ _ us hl => match us, hl with | [_, _, _, _], _ => rfl
abbrev spPaperRight (K : PySem.W.Frag) : Sp := spP K (fun i : (List Str × Nat × List Wd) × Nat => [wd i.1.1, .int (i.1.2.1 : Int), bsD true i.1.2.2, .int (i.2 : Int)]) (fun i => Case i.1.1 i.1.2.1 i.1.2.2 ∧ (paperO i.1.1 i.1.2.1 i.1.2.2).length ≤ i.2) (fun _ => .bool true)
theorem ok_l_paper_right (T : Txt K mg) : Callee P w K mg base 20 "_law_paper_right" ["_law_tags", "_law_size_so", "_law_hidden", "_law_many"] (spPaperRight K) := by
  have C_paper : Callee P w K mg base 19 "paper" ["names", "most", "base"] (spPaper K) := ok_paper T
  have C_shows : Callee P w K mg base 7 "shows" ["names", "most", "base", "logs"] (spShows K) := ok_shows T
  have C_l_done : Callee P w K mg base 2 "_law_done" ["_law_words_so", "_law_row"] (spDone K) := ok_l_done T
  have C_l_again : Callee P w K mg base 7 "_law_again" ["_law_tags", "_law_size_so", "_law_hidden", "_law_rows"] (spAgain K) := ok_l_again T
  have C_l_same : Callee P w K mg base 3 "_law_same" ["_law_got", "_law_due"] (spSame K 2) := ok_same T 2
  refine callee_of T.f_l_paper_right T.g_l_paper_right sc_l_paper_right bd_l_paper_right (spP_len fun _ => rfl) fun cdv A outer s H vs Q E hr hh => ?_
  obtain ⟨⟨⟨names, most, h⟩, many⟩, G, hs, ha, ⟨c, hmany⟩, k⟩ := hh
  have c : Case names most h := c
  have hmany : (paperO names most h).length ≤ many := hmany
  have hpl := paper_len c
  have hlen := case_len c
  have hwl : ∀ l ∈ h, l.length ≤ 1000 := fun l hl => by
    have := (mem_shortOf.mp (c.sub l hl)).1
    have := c.m3
    omega
  obtain ⟨v1, v2, v3, v4, rfl, d1, d2, d3, d4⟩ := dpa_four ha
  refine ⟨_, (pss_cons (ps_set (i := 4) sc_l_paper_right.nd rfl (by first | exact Or.inl rfl | exact Or.inr rfl) (pe_callC C_paper hr (by omega) rfl (pa_cons (pv 0) (pa_cons (pv 1) (pa_cons (pv 2) pa_nil)))))
        (pss_cons (ps_setLc (own := [("_law_row", 8)]) (i := 5) rfl sc_l_paper_right.nd rfl rfl (sw_true rfl rfl rfl (by decide +kernel)) (k_pi_sq (K := K) rfl (pv 4)) (blkOk_by (by kernel_rfl)) (fun _ _ _ _ _ => (pg_name (i := 8) sc_l_paper_right.nd rfl (by first | exact Or.inl rfl | exact Or.inr rfl))) (fun _ _ _ _ _ => pts_one (pt_val (pe_callC C_l_done hr (by omega) rfl (pa_cons (pv 2) (pa_cons (pv 8) pa_nil))))) (fun _ _ _ _ _ => (pv 8)))
        (pss_cons (ps_if (PW.pt (pw_or (pt_cmpR op_gt (pe_callB (id := "len") (k_len (K := K) rfl) (by rfl) T.b_len (by decide +kernel) (pa_cons (pv 4) pa_nil)) (pv 3) (nomark _)) (pw_or1 (pt_cmpR (op_ne) (pe_callB (id := "len") (k_len (K := K) rfl) (by rfl) T.b_len (by decide +kernel) (pa_cons (pv 5) pa_nil)) (pe_callB (id := "len") (k_len (K := K) rfl) (by rfl) T.b_len (by decide +kernel) (pa_cons (pv 2) pa_nil)) (nomark _))))) (pss_one (ps_ret pe_bl)) pss_nil)
        (pss_cons (ps_for PassesOwn.never rfl (pi_range1 rfl T.b_range (pa_cons (pe_callB (id := "len") (k_len (K := K) rfl) (by rfl) T.b_len (by decide +kernel) (pa_cons (pv 4) pa_nil)) pa_nil)) (pg_name (i := 6) sc_l_paper_right.nd rfl (by first | exact Or.inl rfl | exact Or.inr rfl)) (pss_cons (ps_set (i := 7) sc_l_paper_right.nd rfl (by first | exact Or.inl rfl | exact Or.inr rfl) (pe_op (k_catA (K := K) rfl) (pe_slice (k_slT (K := K) rfl) (pv 4) po_none (po_some (pv 6))) (pe_slice (k_slT (K := K) rfl) (pv 4) (po_some (pe_op op_add (pv 6) pe_int)) po_none)))
        (pss_one (ps_if (PW.pt (pw_or (pt_cmp (pc_notN (pe_callC C_l_again hr (by omega) rfl (pa_cons (pv 0) (pa_cons (pv 1) (pa_cons (pv 2) (pa_cons (pv 7) pa_nil)))))) rfl) (pw_or1 (pt_val (pe_callC C_shows hr (by omega) rfl (pa_cons (pv 0) (pa_cons (pv 1) (pa_cons (pv 2) (pa_cons (pv 7) pa_nil))))))))) (pss_one (ps_ret pe_bl)) pss_nil))))
        (pss_one (ps_ret (pe_and (pe_callC C_l_same hr (by omega) rfl (pa_cons (pe_callC C_l_again hr (by omega) rfl (pa_cons (pv 0) (pa_cons (pv 1) (pa_cons (pv 2) (pa_cons (pv 4) pa_nil))))) (pa_cons (pv 2) pa_nil))) (pe_one (pe_callC C_shows hr (by omega) rfl (pa_cons (pv 0) (pa_cons (pv 1) (pa_cons (pv 2) (pa_cons (pv 4) pa_nil))))))))))))), ?_⟩
  refine q_asg (c := c0) (K := K) (G := G) (φ := is (bsD true (paperO names most h))) (ev_call (names, most, h) (ea_cons (ev_var rfl d1) (ea_cons (ev_var rfl d2) (ea_cons (ev_var rfl d3) ea_nil))) c) hs trivial fun v5 d5 G1 H1 g1 _ dv5 e => ?_
  subst e
  refine q_asg (c := c0) (K := K) (G := G1) (φ := is (bsD false h)) ((ev_pick wd (paperO names most h) (fun l => does h l) wd (es_T (ev_var rfl dv5)) (by omega) (fun _ => rfl) (fun l G2 v hl s2 dv => ?_) fun l G2 v hl s2 dv _ => ev_var rfl dv).to ?_) g1.s trivial fun v6 d6 G2 H2 g2 _ dv6 e => ?_
  · exact et_B (ev_call (h, l) (ea_cons (ev_var rfl (dp_mono (g1.g.trans s2) _ _ d3)) (ea_cons (ev_var rfl dv) ea_nil)) (by show h.length ≤ 100000; omega))
  · rw [paper_yes c]
    rfl
  subst e
  have g12 := g1.trans g2
  have dv5' := dp_mono g2.g _ _ dv5
  refine q_if (c := c0) (G := G2) (φ := is false) ((et_or (a := false) (b := false) (et_test ((ev_I0 (d := .bool (decide ((many : Int) < ((paperO names most h).length : Nat)))) (ev_lenT (ev_var rfl dv5')) (ev_var rfl (dp_mono g12.g _ _ d4)) (fun _ => by rw [List.length_map]; exact .bl _)).to ?_)) fun _ => et_test ((ev_neS (x := .int (h.length : Nat)) (y := .int (h.length : Nat)) ((ev_lenL (ev_var rfl dv6)).to (by rw [List.length_map])) ((ev_lenT (ev_var rfl (dp_mono g12.g _ _ d3))).to (by rw [List.length_map])) (fun G v h => dp_int h) (fun G v h => dp_int h) rfl).to (by rw [decide_eq_true rfl]; rfl))).to rfl) g2.s trivial fun bb G3 H3 g3 _ e => ?_
  · exact congrArg PyData.bool (decide_eq_false (by omega))
  subst e
  have g13 := g12.trans g3
  have dv53 := dp_mono g3.g _ _ dv5'
  refine q_forI (c := c0) (G := G3) (fun i : Nat => PyData.int (i : Int)) (List.range (paperO names most h).length) (es_range (ea_cons ((ev_lenT (ev_var rfl dv53)).to (by rw [List.length_map])) ea_nil) (by omega)) g3.s trivial
    (fun i σ' G' H' => Grow B0 G H G' H' ∧ Same G3 G' ∧ ∃ y6 y7 y8, σ' = [some v1, some v2, some v3, some v4, some v5, some v6, y6, y7, y8])
    (fun G4 H4 g4 _ => ⟨g13.trans g4, g4.g, none, none, none, rfl⟩) (fun i σ' G' H' q => q.1.s) ?_ ?_
  · rintro G0 hG i x σ' G' H' hx s0 ⟨g, s3, y6, y7, y8, rfl⟩ v G4 H4 g4 dv
    refine ⟨_, tg_name, ?_⟩
    have hxi : x = i ∧ i < (paperO names most h).length := by
      have hlt : i < (paperO names most h).length := by
        rcases Nat.lt_or_ge i (paperO names most h).length with z | z
        · exact z
        · rw [List.getElem?_eq_none (by rw [List.length_range]; exact z)] at hx
          cases hx
      rw [List.getElem?_range hlt] at hx
      exact ⟨(Option.some.inj hx).symm, hlt⟩
    obtain ⟨rfl, hlt⟩ := hxi
    have gg := g.trans g4
    have s34 := s3.trans g4.g
    have dp5 := dp_mono s34 _ _ dv53
    refine q_asg (c := c0) (K := K) (G := G4) (φ := is (bsD true ((paperO names most h).take x ++ (paperO names most h).drop (x + 1)))) ((ev_catT (ds := ((paperO names most h).take x).map wd) (es := ((paperO names most h).drop (x + 1)).map wd) ((ev_slT (ev_var rfl dp5) eo_none (eo_some (ev_var rfl dv))).to ?_) ((ev_slT (ev_var rfl dp5) (eo_some (K := K) (i := ((x + 1 : Nat) : Int)) ((ev_I0 (ev_var rfl dv) ev_int (fun _ => .int _)).to ?_)) eo_none).to ?_) ?_).to ?_) g4.s trivial fun v7 d7 G5 H5 g5 _ dv7 e => ?_
    · rw [cutD_map, cutD_to]
    · rw [Int.natCast_add]
      rfl
    · rw [cutD_map, cutD_from]
    · rw [List.length_map, List.length_map, List.length_take, List.length_drop]
      omega
    · rw [← List.map_append]
      rfl
    subst e
    have gg5 := gg.trans g5
    have hmem : ∀ l ∈ (paperO names most h).take x ++ (paperO names most h).drop (x + 1), ∀ y ∈ l, y ∈ names := fun l hl => by
      rcases List.mem_append.mp hl with hl | hl
      · exact paper_names c (List.mem_of_mem_take hl)
      · exact paper_names c (List.mem_of_mem_drop hl)
    have hl4 : ((paperO names most h).take x ++ (paperO names most h).drop (x + 1)).length ≤ 400 := by
      rw [List.length_append, List.length_take, List.length_drop]
      omega
    have hnone := paper_need c hlt
    have args : ∀ G5 : Hp, Same G G5 → Dp K G5 v7 (bsD true ((paperO names most h).take x ++ (paperO names most h).drop (x + 1))) → ∀ y8, EA c0 K (tCons (tVar 0) (tCons (tVar 1) (tCons (tVar 2) (tCons (tVar 7) tNil)))) [some v1, some v2, some v3, some v4, some v5, some v6, some v, some v7, y8] G5 (dats [wd names, .int (most : Int), bsD true h, bsD true ((paperO names most h).take x ++ (paperO names most h).drop (x + 1))]) :=
      fun G5 s d7 y8 => ea_cons (ev_var rfl (dp_mono s _ _ d1)) (ea_cons (ev_var rfl (dp_mono s _ _ d2)) (ea_cons (ev_var rfl (dp_mono s _ _ d3)) (ea_cons (ev_var rfl d7) ea_nil)))
    refine st_if (c := c0) (G := G5) (φ := is false) ((et_or (a := false) (b := false) (et_B ((ev_notN (d := .none) (((ev_call (names, most, h, _) (args G5 gg5.g dv7 y8) ⟨c, hl4, hmem⟩)).to ?_) true fun G v h => nonN h).to rfl)) fun _ => et_B ((ev_call (names, most, h, _) (args G5 gg5.g dv7 y8) ⟨c, hl4, hmem⟩).to ?_)).to rfl) g5.s trivial fun bb G6 H6 g6 _ e => ?_
    · show optBs (after names most h _).found = _
      rw [hnone]
      rfl
    · show PyData.bool (decide ((after names most h _).found = some h)) = _
      rw [hnone]
      rfl
    subst e
    exact ⟨G6, ((s0.trans g4.g).trans g5.g).trans g6.g, gg5.trans g6, (s34.trans g5.g).trans g6.g, some v, some v7, y8, rfl⟩
  · rintro σ' G' H' sg ⟨g, s3, y6, y7, y8, rfl⟩
    have dp5 := dp_mono s3 _ _ dv53
    have args : EA c0 K (tCons (tVar 0) (tCons (tVar 1) (tCons (tVar 2) (tCons (tVar 4) tNil)))) [some v1, some v2, some v3, some v4, some v5, some v6, y6, y7, y8] G' (dats [wd names, .int (most : Int), bsD true h, bsD true (paperO names most h)]) :=
      ea_cons (ev_var rfl (dp_mono g.g _ _ d1)) (ea_cons (ev_var rfl (dp_mono g.g _ _ d2)) (ea_cons (ev_var rfl (dp_mono g.g _ _ d3)) (ea_cons (ev_var rfl dp5) ea_nil)))
    have hfound := paper_found c
    refine st_ret (c := c0) (K := K) (G := G') (φ := is (.bool true)) ((ev_andV (a := true) (b := true) (ev_call (bsD true h) (ea_cons ((ev_call (names, most, h, paperO names most h) args ⟨c, by show (paperO names most h).length ≤ 400; omega, fun l hl => paper_names c hl⟩).to ?_) (ea_cons (ev_var rfl (dp_mono g.g _ _ d3)) ea_nil)) (same_bs 0 h (by omega) hwl)) fun _ => (ev_call (names, most, h, paperO names most h) args ⟨c, by show (paperO names most h).length ≤ 400; omega, fun l hl => paper_names c hl⟩).to ?_).to rfl) g.s trivial fun v d G5 H5 g5 _ dv e => by subst e; exact k v G5 H5 (g.trans g5) dv
    · show optBs (after names most h _).found = _
      rw [hfound]
      rfl
    · show PyData.bool (decide ((after names most h _).found = some h)) = _
      rw [hfound, decide_eq_true rfl]
/-! ### _law_way_right -/
-- slots: 0 _law_finder, 1 _law_hidden*, 2 _law_tags, 3 _law_box_here, 4 _law_turn, 5 _law_row, 6 _law_told, 7 _law_one_so, 8 _law_two_so
abbrev N_l_way_right : List Str := ["_law_finder", "_law_hidden", "_law_tags", "_law_box_here", "_law_turn", "_law_row", "_law_told", "_law_one_so", "_law_two_so"]
theorem sc_l_way_right : FnScope N_l_way_right ["_law_finder", "_law_hidden", "_law_tags", "_law_box_here"] (defScope st_l_way_right) := ⟨rfl, rfl, rfl, by decide +kernel, rfl, by decide +kernel, by decide +kernel⟩
theorem bd_l_way_right : BindOk "_law_way_right" "_law_way_right" st_l_way_right ["_law_finder", "_law_hidden", "_law_tags", "_law_box_here"] := fun _ _ _ _ _ _ us hl => match us, hl with | [_, _, _, _], _ => rfl
def spWay (K : PySem.W.Frag) : Sp := fun vs H Q _ => ∃ a b vh vt G N, ∃ (f : Fd) (h : List Wd), vs = [.ref a, vh, vt, .ref b] ∧ Same G H ∧ G b = none ∧ BoxAt b N H ∧ N + 30 ≤ LIM ∧ FinAt K a f G H ∧ Dp K G vh (bsD true h) ∧ Dp K G vt (wd f.names) ∧ Hid h f ∧ f.Ok ∧ f.names ≠ [] ∧ h.length ≤ 15 ∧
  ∀ v G1 H1, Grow (fun a => a = b) G H G1 H1 → G1 b = none → BoxAt b (N + 30) H1 → FinAt K a f G1 H1 → Dp K G1 v (.bool true) → Q v H1
theorem ok_l_way_right (T : Txt K mg) : Callee P w K mg base 7 "_law_way_right" ["_law_finder", "_law_hidden", "_law_tags", "_law_box_here"] (spWay K) := by
  have C_l_within : Callee P w K mg base 3 "_law_within" ["_law_words_so", "_law_others_so"] (spWithin K) := ok_l_within T
  have C_l_done : Callee P w K mg base 2 "_law_done" ["_law_words_so", "_law_row"] (spDone K) := ok_l_done T
  have C_l_event_row : Callee P w K mg base 3 "_law_event_row" ["_law_box_here", "_law_tags", "_law_most"] (spEvent K) := ok_l_event_row T
  have C_F_greatest : MCallee P w K mg base 5 (FC K) "greatest" ["self"] (spGreatest K) := ok_F_greatest T
  have C_F_forced : MCallee P w K mg base 5 (FC K) "forced" ["self"] (spForced K) := ok_F_forced T
  have C_F_sure : MCallee P w K mg base 5 (FC K) "sure" ["self", "log"] (spSureM K) := ok_F_sure T
  have C_F_found : MCallee P w K mg base 6 (FC K) "found" ["self"] (spFound K) := ok_F_found T
  have C_F_another : MCallee P w K mg base 5 (FC K) "another" ["self"] (spAnother K) := ok_F_another T
  refine callee_of T.f_l_way_right T.g_l_way_right sc_l_way_right bd_l_way_right (by rintro vs H Q E ⟨a, b, vh, vt, G, N, f, h, rfl, _⟩; rfl) fun cdv A outer s H vs Q E hr hh => ?_
  obtain ⟨a, b, vh, vt, G, N, f, h, rfl, hs, h0, hb, hN, F, dh, dt, Hd, ho, hne, hlen, k⟩ := hh
  have nab : a ≠ b := fun e => by
    obtain ⟨_, dx, fs, hx, _⟩ := F.ex
    obtain ⟨x, y, z, hy, _⟩ := hb
    rw [e, hy] at hx
    cases hx
  have hgl : f.greatest.length ≤ 40 := Nat.le_trans (leO_len f.rows) (rows_le f ho)
  have hfl : f.forced.length ≤ 40 := Nat.le_trans (List.length_filter_le ..) hgl
  have hnl := ho.names
  refine ⟨_, (pss_cons (ps_if (PW.pt (pw_or (pt_not (pt_val (pe_callC C_l_within hr (by omega) rfl (pa_cons (pv 1) (pa_cons (pe_methC0 C_F_greatest (pv 0) T.cl hr (by omega)) pa_nil))))) (pw_or1 (pt_not (pt_val (pe_callB (id := "all") (k_all (K := K) rfl rfl) (by rfl) T.b_all (by decide +kernel) (pa_cons (pe_lc (own := [("_law_row", 5)]) rfl sc_l_way_right.nd (k_pi_sq (K := K) rfl (pe_methC0 C_F_forced (pv 0) T.cl hr (by omega))) (blkOk_by (by kernel_rfl)) (fun _ _ _ _ _ => (pg_name (i := 5) sc_l_way_right.nd rfl (by first | exact Or.inl rfl | exact Or.inr rfl))) (fun _ _ _ _ _ => pts_nil) (fun _ _ _ _ _ => (pe_callC C_l_done hr (by omega) rfl (pa_cons (pv 1) (pa_cons (pv 5) pa_nil))))) pa_nil))))))) (pss_one (ps_ret pe_bl)) pss_nil)
        (pss_cons (ps_for PassesOwn.never rfl (pi_range1 rfl T.b_range (pa_cons pe_int pa_nil)) (pg_name (i := 4) sc_l_way_right.nd rfl (by first | exact Or.inl rfl | exact Or.inr rfl)) (pss_cons (ps_set (i := 5) sc_l_way_right.nd rfl (by first | exact Or.inl rfl | exact Or.inr rfl) (pe_callC C_l_event_row hr (by omega) rfl (pa_cons (pv 3) (pa_cons (pv 2) (pa_cons pe_int pa_nil)))))
        (pss_cons (ps_set (i := 6) sc_l_way_right.nd rfl (by first | exact Or.inl rfl | exact Or.inr rfl) (pe_methC C_F_sure (pv 0) T.cl hr (by omega) (pa_cons (pv 5) pa_nil)))
        (pss_one (ps_if (PW.pt (pw_and (pt_cmp (pc_notN (pv 6)) rfl) (pw_and1 (pt_cmpR (op_ne) (pv 6) (pe_callC C_l_done hr (by omega) rfl (pa_cons (pv 1) (pa_cons (pv 5) pa_nil))) (nomark _))))) (pss_one (ps_ret pe_bl)) pss_nil)))))
        (pss_cons (ps_par (i := 7) (j := 8) (by rfl) sc_l_way_right.nd rfl rfl (by decide) rfl rfl (pa_cons (pe_methC0 C_F_found (pv 0) T.cl hr (by omega)) (pa_cons (pe_methC0 C_F_another (pv 0) T.cl hr (by omega)) pa_nil)) (by rfl))
        (pss_one (ps_ret (pe_ifExp (pt_cmp (pc_isN (pv 8)) rfl) (pe_cmpR (k_eqP (K := K) rfl (Rm65 hr)) (pv 7) (pv 1) (nomark _)) (pe_cmp (pc_isN (pv 7)) rfl))))))), ?_⟩
  obtain ⟨nF, dx, fs, hx, hfd⟩ := F.ex
  refine q_if (c := cF c0 K a fs) (G := G) (φ := is false) ((et_or (a := false) (b := false) ((et_not (b := true) (et_B ((ev_call (h, f.greatest) (ea_cons (ev_var rfl dh) (ea_cons (ev_meth () rfl hfd ho (by decide +kernel) ea_nil trivial) ea_nil)) ⟨by show h.length ≤ 100000; omega, by show f.greatest.length ≤ 100000; omega⟩).to ?_))).to rfl) fun _ => (et_not (b := true) (et_B ((ev_allMap wd f.forced (fun l => does h l) (es_T (ev_meth () rfl hfd ho (by decide +kernel) ea_nil trivial)) (by omega) (fun _ => rfl) fun l G2 v hl s2 dv => ev_call (h, l) (ea_cons (ev_var rfl (dp_mono s2 _ _ dh)) (ea_cons (ev_var rfl dv) ea_nil)) (by show h.length ≤ 100000; omega)).to ?_))).to rfl).to rfl) hs ⟨trivial, dx, hx⟩ fun bb G1 H1 g1 _ e => ?_
  · exact congrArg PyData.bool (List.all_eq_true.mpr fun l hl => Hd.greatest (does_mem hl))
  · exact congrArg PyData.bool (List.all_eq_true.mpr fun l hl => does_mem (Hd.forced hl))
  subst e
  have g1 : Grow B0 G H G1 H1 := g1
  have gw1 : Grow (fun a => a = b) G H G1 H1 := Grow.wide g1
  refine q_forI (c := c0) (G := G1) (fun i : Nat => PyData.int (i : Int)) (List.range 3) (es_range (K := K) (n := 3) (ea_cons ev_int ea_nil) (by omega)) g1.s trivial
    (fun i σ' G' H' => Grow (fun a => a = b) G H G' H' ∧ G' b = none ∧ BoxAt b (N + 10 * i) H' ∧ FinAt K a f G' H' ∧ ∃ y4 y5 y6 y7 y8, σ' = [some (.ref a), some vh, some vt, some (.ref b), y4, y5, y6, y7, y8])
    (fun G2 H2 g2 _ => ⟨gw1.trans (Grow.wide g2), Grow.boxN (gw1.trans (Grow.wide g2)) h0 hb, hb.same fun o ho => Grow.same g2 _ _ (g1.same _ _ ho), (F.grow0 g1).grow0 g2, none, none, none, none, none, rfl⟩) (fun i σ' G' H' q => q.1.s) ?_ ?_
  · rintro G0 hG i x σ' G' H' hxr s0 ⟨g, n', bx, F', y4, y5, y6, y7, y8, rfl⟩ v G2 H2 g2 dv
    refine ⟨_, tg_name, ?_⟩
    have hi3 : i < 3 := by
      rcases Nat.lt_or_ge i 3 with z | z
      · exact z
      · rw [List.getElem?_eq_none (by rw [List.length_range]; exact z)] at hxr
        cases hxr
    have gg2 := g.trans (Grow.wide g2)
    have n2 := Grow.boxN (Grow.wide g2 : Grow (fun a => a = b) G' H' G2 H2) n' bx
    have bx2 := bx.same fun o ho => g2.same _ _ ho
    have F2 := F'.grow0 g2
    refine q_asgN (K := K) (b := b) (n := 10) (N := N + 10 * i) (G := G2) (evN_call (n := 10) (E := E0) (f.names, 7) (j := 3) rfl (ea_cons (ev_var (i := 2) rfl (dp_mono gg2.g _ _ dt)) (ea_cons (ev_int (i := ((7 : Nat) : Int))) ea_nil)) ⟨hne, by show f.names.length ≤ 1000; omega, by show 7 ≤ 7; omega⟩) (by omega) g2.s n2 bx2 fun v5 d5 G3 H3 g3 n3 bx3 dv5 ⟨l, e5, hl1, hl2⟩ => ?_
    subst e5
    have F3 := F2.grow nab g3
    obtain ⟨nF3, dx3, fs3, hx3, hfd3⟩ := F3.ex
    have gg3 := gg2.trans g3
    refine q_asg (c := cF c0 K a fs3) (K := K) (G := G3) (φ := is (optB (f.sure l))) (ev_meth l rfl hfd3 ho (by decide +kernel) (ea_cons (ev_var rfl dv5) ea_nil) hl2) g3.s ⟨trivial, dx3, hx3⟩ fun v6 d6 G4 H4 g4 _ dv6 e6 => ?_
    subst e6
    have g4 : Grow B0 G3 H3 G4 H4 := g4
    have gw4 : Grow (fun a => a = b) G3 H3 G4 H4 := Grow.wide g4
    have gg4 := gg3.trans gw4
    have n4 := Grow.boxN gw4 n3 bx3
    have bx4 := bx3.same fun o ho => g4.same _ _ ho
    have F4 := F3.grow0 g4
    refine st_if (c := c0) (G := G4) (φ := is false) ?_ g4.s trivial fun bb G5 H5 g5 _ e => ?_
    · cases hsr : f.sure l with
      | none =>
        rw [hsr] at dv6
        exact (et_and (a := false) (b := false) (et_B ((ev_notN (ev_var rfl dv6) true fun G v h => nonN h).to rfl)) (fun e => nomatch e)).to rfl
      | some z =>
        rw [hsr] at dv6
        have hz := Hd.sure hsr
        refine (et_and (a := true) (b := false) (et_B ((ev_notN (ev_var rfl dv6) false fun G v h => nonD (d := .bool z) (fun z => nomatch z) h).to rfl)) fun _ => et_test ((ev_neS (x := .bl z) (y := .bl z) (ev_var rfl dv6) ((ev_call (h, l) (ea_cons (ev_var rfl (dp_mono gg4.g _ _ dh)) (ea_cons (ev_var rfl (dp_mono g4.g _ _ dv5)) ea_nil)) (by show h.length ≤ 100000; omega)).to (by rw [hz])) (fun G v h => dp_bool h) (fun G v h => dp_bool h) (by cases z <;> rfl)).to (by rw [decide_eq_true rfl]; rfl))).to rfl
    · subst e
      have gw5 : Grow (fun a => a = b) G4 H4 G5 H5 := Grow.wide g5
      refine ⟨G5, (((s0.trans g2.g).trans g3.g).trans g4.g).trans (Grow.g g5), gg4.trans gw5, Grow.boxN gw5 n4 bx4, (bx4.same fun o ho => Grow.same g5 _ _ ho).up (by omega), F4.grow0 g5, some v, some v5, some v6, y7, y8, rfl⟩
  · rintro σ' G' H' sg ⟨g, n', bx, F', y4, y5, y6, y7, y8, rfl⟩
    obtain ⟨nF3, dx3, fs3, hx3, hfd3⟩ := F'.ex
    refine q_par ?_
    refine ev_meth (c := c0) (K := K) (E := E0) () (i := 0) rfl hfd3 ho (by decide +kernel) ea_nil trivial G' H' (Same.refl G') g.s ⟨trivial, dx3, hx3⟩ _ fun v7 d7 G2 H2 g2 j2 dv7 e7 => ?_
    refine ev_meth (c := c0) (K := K) (E := E0) () (i := 0) rfl (hfd3.mono g2.g) ho (by decide +kernel) ea_nil trivial G2 H2 (Same.refl G2) g2.s j2 _ fun v8 d8 G3 H3 g3 j3 dv8 e8 => ?_
    subst e7 e8
    refine ⟨v7, v8, rfl, ?_⟩
    have g23 : Grow B0 G' H' G3 H3 := Grow.trans g2 g3
    have dv7' := dp_mono g3.g _ _ dv7
    refine st_ret (c := c0) (K := K) (G := G3) (φ := is (.bool true)) ?_ g3.s trivial fun v d G4 H4 g4 _ dv e => ?_
    · rcases Hd.found_or with q | q
      · have hq : f.another ≠ none := fun e => (another_none f).mp e q
        have dv8' : Dp K G3 v8 (optBs f.another) := dv8
        have dv77 : Dp K G3 v7 (optBs f.found) := dv7'
        rw [q] at dv77
        cases ha : f.another with
        | none => exact absurd ha hq
        | some o =>
          rw [ha] at dv8'
          exact ev_if (b := false) (et_B (ev_isN (ev_var rfl dv8') false fun G v h => nonD (d := bsD true o) (fun z => nomatch z) h)) (fun e => nomatch e) fun _ => ev_isN (ev_var rfl dv77) true fun G v h => nonN h
      · have hq : f.another = none := (another_none f).mpr (by rw [q]; exact fun z => nomatch z)
        have dv8' : Dp K G3 v8 (optBs f.another) := dv8
        have dv77 : Dp K G3 v7 (optBs f.found) := dv7'
        rw [q] at dv77
        rw [hq] at dv8'
        exact ev_if (b := true) (et_B (ev_isN (ev_var rfl dv8') true fun G v h => nonN h)) (fun _ => (ev_eqE (x := h) (y := h) (enc_bs true) (by omega) (ev_var rfl dv77) (ev_var rfl (dp_mono (g.g.trans g23.g) _ _ dh))).to (by rw [decide_eq_true rfl])) fun e => nomatch e
    · subst e
      have g24 : Grow B0 G' H' G4 H4 := Grow.trans g23 g4
      have gw : Grow (fun a => a = b) G' H' G4 H4 := Grow.wide g24
      have hr3 : (List.range 3).length = 3 := by rw [List.length_range]
      rw [hr3] at bx
      exact k v G4 H4 (g.trans gw) (Grow.boxN gw n' bx) (bx.same fun o ho => g24.same _ _ ho) (F'.grow0 g24) dv
end
end Mk
/-! ## MkAsk -/
set_option autoImplicit true
set_option Elab.async false
set_option linter.all false
set_option maxRecDepth 100000
/-! How often it is asked. Plain. -/
namespace Mk
open PySem MkM
section
variable {h : List Wd} {f f' : Fd}
/-- the short logs that were asked -/
def Fd.cnt (f : Fd) : Nat := (f.short.filter fun l => f.asks.any fun a => decide (a.1 = l)).length
theorem cnt_le (f : Fd) : f.cnt ≤ f.short.length := List.length_filter_le ..
theorem asked_any {f : Fd} {l : Wd} : (f.asks.any fun a => decide (a.1 = l)) = true ↔ ∃ b, (l, b) ∈ f.asks := by
  rw [List.any_eq_true]
  constructor
  · rintro ⟨a, ha, e⟩
    have e := of_decide_eq_true e
    refine ⟨a.2, ?_⟩
    rw [← e]
    exact ha
  · rintro ⟨b, hb⟩
    exact ⟨_, hb, decide_eq_true rfl⟩
theorem put_short (l : Wd) (b : Bool) : (f.put l b).short = f.short := rfl
theorem cnt_put (l : Wd) (b : Bool) : f.cnt ≤ (f.put l b).cnt := by
  unfold Fd.cnt
  rw [put_short]
  generalize f.short = s
  induction s with
  | nil => exact Nat.le_refl _
  | cons x s ih =>
    rw [List.filter_cons, List.filter_cons]
    by_cases q : (f.asks.any fun a => decide (a.1 = x)) = true
    · have : ((f.put l b).asks.any fun a => decide (a.1 = x)) = true := by
        obtain ⟨c, hc⟩ := asked_any.mp q
        exact asked_any.mpr ⟨c, mem_put.mpr (.inl hc)⟩
      rw [if_pos q, if_pos this, List.length_cons, List.length_cons]
      omega
    · rw [if_neg q]
      split
      · rw [List.length_cons]
        omega
      · exact ih
theorem cnt_new {l : Wd} {b : Bool} (hl : l ∈ f.short) (hn : ∀ b, (l, b) ∉ f.asks) : f.cnt + 1 ≤ (f.put l b).cnt := by
  unfold Fd.cnt
  rw [put_short]
  have mono : ∀ x, (f.asks.any fun a => decide (a.1 = x)) = true → ((f.put l b).asks.any fun a => decide (a.1 = x)) = true := fun x q => by
    obtain ⟨c, hc⟩ := asked_any.mp q
    exact asked_any.mpr ⟨c, mem_put.mpr (.inl hc)⟩
  have yes : ((f.put l b).asks.any fun a => decide (a.1 = l)) = true := asked_any.mpr ⟨b, mem_put.mpr (.inr rfl)⟩
  have no : ¬ (f.asks.any fun a => decide (a.1 = l)) = true := fun q => by
    obtain ⟨c, hc⟩ := asked_any.mp q
    exact hn c hc
  generalize f.short = s at hl
  have base : ∀ s : List Wd, (s.filter fun x => f.asks.any fun a => decide (a.1 = x)).length ≤ (s.filter fun x => (f.put l b).asks.any fun a => decide (a.1 = x)).length := by
    intro s
    induction s with
    | nil => exact Nat.le_refl _
    | cons x s ih =>
      rw [List.filter_cons, List.filter_cons]
      by_cases q : (f.asks.any fun a => decide (a.1 = x)) = true
      · rw [if_pos q, if_pos (mono x q), List.length_cons, List.length_cons]
        omega
      · rw [if_neg q]
        split
        · rw [List.length_cons]
          omega
        · exact ih
  induction s with
  | nil => cases hl
  | cons x s ih =>
    rw [List.filter_cons, List.filter_cons]
    by_cases e : l = x
    · subst e
      rw [if_neg no, if_pos yes, List.length_cons]
      have := base s
      omega
    · have hm : l ∈ s := by
        rcases List.mem_cons.mp hl with q | q
        · exact absurd q e
        · exact q
      have ih := ih hm
      by_cases q : (f.asks.any fun a => decide (a.1 = x)) = true
      · rw [if_pos q, if_pos (mono x q), List.length_cons, List.length_cons]
        omega
      · rw [if_neg q]
        split
        · rw [List.length_cons]
          omega
        · exact ih
/-- what teaches is told by the asks, whatever their order -/
theorem taught_same (hs : f'.short = f.short) (ha : ∀ a, a ∈ f'.asks ↔ a ∈ f.asks) (t : Taught h f) : Taught h f' := by
  have hr : f'.rows = f.rows := by
    show rowsOf f'.short f'.asks = rowsOf f.short f.asks
    unfold rowsOf
    rw [hs]
    refine List.filter_congr fun l _ => ?_
    congr 1
    rw [Bool.eq_iff_iff, List.any_eq_true, List.any_eq_true]
    constructor
    · rintro ⟨a, ha', p⟩
      obtain ⟨h1, h2⟩ := List.mem_filter.mp ha'
      exact ⟨a, List.mem_filter.mpr ⟨(ha a).mp h1, h2⟩, p⟩
    · rintro ⟨a, ha', p⟩
      obtain ⟨h1, h2⟩ := List.mem_filter.mp ha'
      exact ⟨a, List.mem_filter.mpr ⟨(ha a).mpr h1, h2⟩, p⟩
  refine ⟨fun w hw => ?_, fun l hl hd => ?_⟩
  · obtain ⟨a, h1, h2, h3⟩ := t.pos w hw
    exact ⟨a, (ha a).mpr h1, h2, by rw [hr]; exact h3⟩
  · rw [hs] at hl
    obtain ⟨a, h1, h2, h3⟩ := t.neg l hl hd
    exact ⟨a, (ha a).mpr h1, h2, h3⟩
end
section
variable {names : List Str} {most : Nat} {h : List Wd}
/-- the asks told over again find the same -/
theorem told_again (c : Case names most h) {f : Fd} (H : Hid h f) (hs : f.short = shortOf names most) (e : f.found = some h) : (after names most h (f.asks.map fun a => a.1)).found = some h := by
  refine (after_hid c _).found_of (taught_same (by rw [after_short, hs]) (fun a => ?_) (H.taught e))
  rw [after_mem]
  constructor
  · rintro ⟨h1, h2⟩
    obtain ⟨a', ha', e⟩ := List.mem_map.mp h1
    have := H.hon a' ha'
    obtain ⟨a1, a2⟩ := a
    obtain ⟨b1, b2⟩ := a'
    have e : b1 = a1 := e
    have h2 : a2 = does h a1 := h2
    have this : b2 = does h b1 := this
    subst e
    rw [h2, ← this]
    exact ha'
  · exact fun ha => ⟨List.mem_map.mpr ⟨a, ha, rfl⟩, H.hon a ha⟩
end
end Mk
/-! ## MkW15 -/
set_option autoImplicit true
set_option Elab.async false
set_option linter.all false
set_option maxRecDepth 100000
set_option maxHeartbeats 4000000
namespace Mk
open PySem PySem.Spec PyProof.Rows L2 MkM
/-- how often a short log is asked, at least -/
def need (m : Nat) : Nat := 2 * (m / 3) + min (m % 3) 2
section
variable {P : Program} {w : World} {K : PySem.W.Frag} {mg : Str → Option Value} {base : Heap}
/-! ### _law_asked_right -/
-- slots: 0 _law_box_here, 1 _law_tags, 2 _law_size_so, 3 _law_hidden, 4 _law_finder, 5 _law_many, 6 _law_row, 7 _law_rows, 8 _law_own
abbrev N_l_asked_right : List Str := ["_law_box_here", "_law_tags", "_law_size_so", "_law_hidden", "_law_finder", "_law_many", "_law_row", "_law_rows", "_law_own"]
theorem sc_l_asked_right : FnScope N_l_asked_right ["_law_box_here", "_law_tags", "_law_size_so", "_law_hidden"] (defScope st_l_asked_right) := ⟨rfl, rfl, rfl, by decide +kernel, rfl, by decide +kernel, by decide +kernel⟩
theorem bd_l_asked_right : BindOk "_law_asked_right" "_law_asked_right" st_l_asked_right ["_law_box_here", "_law_tags", "_law_size_so", "_law_hidden"] := fun _ _ _ _ _ _ us hl => match us, hl with | [_, _, _, _], _ => rfl
abbrev spAsked (K : PySem.W.Frag) : Sp := spB K 2000 (fun i : List Str × Nat × List Wd => [wd i.1, .int (i.2.1 : Int), bsD true i.2.2]) (fun i => Case i.1 i.2.1 i.2.2 ∧ i.1 ≠ []) (fun _ d => d = .bool true)
theorem ok_l_asked_right (T : Txt K mg) : Callee P w K mg base 21 "_law_asked_right" ["_law_box_here", "_law_tags", "_law_size_so", "_law_hidden"] (spAsked K) := by
  have C_l_done : Callee P w K mg base 2 "_law_done" ["_law_words_so", "_law_row"] (spDone K) := ok_l_done T
  have C_l_event_row : Callee P w K mg base 3 "_law_event_row" ["_law_box_here", "_law_tags", "_law_most"] (spEvent K) := ok_l_event_row T
  have C_l_way_right : Callee P w K mg base 7 "_law_way_right" ["_law_finder", "_law_hidden", "_law_tags", "_law_box_here"] (spWay K) := ok_l_way_right T
  have C_l_paper_right : Callee P w K mg base 20 "_law_paper_right" ["_law_tags", "_law_size_so", "_law_hidden", "_law_many"] (spPaperRight K) := ok_l_paper_right T
  have C_l_same : Callee P w K mg base 3 "_law_same" ["_law_got", "_law_due"] (spSame K 2) := ok_same T 2
  have C_shows : Callee P w K mg base 7 "shows" ["names", "most", "base", "logs"] (spShows K) := ok_shows T
  have C_F_init : MkCallee P w K mg base 2 (FC K) ["self", "names", "most"] (spInit K) := ok_F_init T
  have C_F_answered : MCallee P w K mg base 5 (FC K) "answered" ["self", "log", "done"] (spAnswered K) := ok_F_answered T
  have C_F_found : MCallee P w K mg base 6 (FC K) "found" ["self"] (spFound K) := ok_F_found T
  have C_F_next_ask : MCallee P w K mg base 5 (FC K) "next_ask" ["self"] (spNext K) := ok_F_next_ask T
  have C_F_asks : MCallee P w K mg base 1 (FC K) "asks" ["self"] (spAsks K) := ok_F_asks T
  refine callee_of T.f_l_asked_right T.g_l_asked_right sc_l_asked_right bd_l_asked_right (spB_len fun _ => rfl) fun cdv A outer s H vs Q E hr hh => ?_
  obtain ⟨b, ws, ⟨names, most, h⟩, G, N, rfl, hs, h0, hb, hN, ha, ⟨c, hne⟩, k⟩ := hh
  have c : Case names most h := c
  have hne : names ≠ [] := hne
  have hN : N + 2000 ≤ LIM := hN
  have hlen := case_len c
  have hn3 := c.n3
  have hwl : ∀ l ∈ h, l.length ≤ 1000 := fun l hl => by
    have := (mem_shortOf.mp (c.sub l hl)).1
    have := c.m3
    omega
  obtain ⟨v1, v2, v3, rfl, d1, d2, d3⟩ := dpa_three ha
  refine ⟨_, (pss_cons (ps_par (i := 4) (j := 5) (by rfl) sc_l_asked_right.nd rfl rfl (by decide) rfl rfl (pa_cons (pe_makeC C_F_init hr (by omega) rfl T.g_Finder (pa_cons (pv 1) (pa_cons (pv 2) pa_nil))) (pa_cons pe_int pa_nil)) (by rfl))
        (pss_cons (ps_while PassesOwn.never (pt_cmp (pc_isN (pe_methC0 C_F_found (pv 4) T.cl hr (by omega))) rfl) (pss_cons (ps_set (i := 6) sc_l_asked_right.nd rfl (by first | exact Or.inl rfl | exact Or.inr rfl) (pe_ifExp (pt_cmpR op_lt (pe_op op_modN (pv 5) pe_int) pe_int (nomark _)) (pe_methC0 C_F_next_ask (pv 4) T.cl hr (by omega)) (pe_callC C_l_event_row hr (by omega) rfl (pa_cons (pv 0) (pa_cons (pv 1) (pa_cons pe_int pa_nil))))))
        (pss_cons (ps_expr (pe_methC C_F_answered (pv 4) T.cl hr (by omega) (pa_cons (pv 6) (pa_cons (pe_callC C_l_done hr (by omega) rfl (pa_cons (pv 3) (pa_cons (pv 6) pa_nil))) pa_nil))))
        (pss_cons (ps_set (i := 5) sc_l_asked_right.nd rfl (by first | exact Or.inl rfl | exact Or.inr rfl) (pe_op op_add (pv 5) pe_int))
        (pss_one (ps_if (PW.pt (pw_or (pt_cmpR op_gt (pv 5) pe_int (nomark _)) (pw_or1 (pt_not (pt_val (pe_callC C_l_way_right hr (by omega) rfl (pa_cons (pv 4) (pa_cons (pv 3) (pa_cons (pv 1) (pa_cons (pv 0) pa_nil)))))))))) (pss_one (ps_ret pe_bl)) pss_nil))))))
        (pss_cons (ps_set (i := 7) sc_l_asked_right.nd rfl (by first | exact Or.inl rfl | exact Or.inr rfl) (pe_callTy (T := "tuple") (k_tuple (K := K) rfl) (by rfl) T.b_tuple (by decide +kernel) (pa_cons (pe_lc (own := [("_law_own", 8)]) rfl sc_l_asked_right.nd (k_pi_sq (K := K) rfl (pe_methC0 C_F_asks (pv 4) T.cl hr (by omega))) (blkOk_by (by kernel_rfl)) (fun _ _ _ _ _ => (pg_name (i := 8) sc_l_asked_right.nd rfl (by first | exact Or.inl rfl | exact Or.inr rfl))) (fun _ _ _ _ _ => pts_nil) (fun _ _ _ _ _ => (pe_ix (k_ixT (K := K) rfl) (pv 8) pe_int (fun _ _ => rfl)))) pa_nil)))
        (pss_cons (ps_if (PW.pt (pw_or (pt_not (pt_val (pe_callC C_l_same hr (by omega) rfl (pa_cons (pe_methC0 C_F_found (pv 4) T.cl hr (by omega)) (pa_cons (pv 3) pa_nil))))) (pw_or1 (pt_not (pt_val (pe_callC C_shows hr (by omega) rfl (pa_cons (pv 1) (pa_cons (pv 2) (pa_cons (pv 3) (pa_cons (pv 7) pa_nil)))))))))) (pss_one (ps_ret pe_bl)) pss_nil)
        (pss_one (ps_ret (pe_callC C_l_paper_right hr (by omega) rfl (pa_cons (pv 1) (pa_cons (pv 2) (pa_cons (pv 3) (pa_cons (pe_callB (id := "len") (k_len (K := K) rfl) (by rfl) T.b_len (by decide +kernel) (pa_cons (pv 7) pa_nil)) pa_nil))))))))))), ?_⟩
  refine q_par ?_
  refine make_core (c := c0) (K := K) (σ := start N_l_asked_right [.ref b, v1, v2, v3]) (G := G) (names := names) (most := most) (ea_cons (ev_var (i := 1) rfl d1) (ea_cons (ev_var (i := 2) rfl d2) ea_nil)) hs trivial c.n3 c.m3 fun a G1 H1 hna g1 _ F1 => ?_
  have g1 : Grow B0 G H G1 H1 := g1
  have nab : a ≠ b := fun e => hb.ne (by rw [← e]; exact hna)
  refine ⟨.ref a, .int 0, rfl, ?_⟩
  let W : Nat → St → Hp → Prop := fun m σ' H' => ∃ (G' : Hp) (i : Nat) (f : Fd) (y6 y7 y8 : Option V), m = 100 - i ∧ Grow (fun a => a = b) G H G' H' ∧ G' b = none ∧ BoxAt b (N + 40 * i) H' ∧ FinAt K a f G' H' ∧ Hid h f ∧ f.names = names ∧ f.most = most ∧ f.asks.length ≤ i ∧ (∀ q ∈ f.asks, ∀ x ∈ q.1, x ∈ names) ∧ need i ≤ f.cnt ∧
    σ' = [some (.ref b), some v1, some v2, some v3, some (.ref a), some (.int (i : Int)), y6, y7, y8]
  have gw1 : Grow (fun a => a = b) G H G1 H1 := Grow.wide g1
  refine ⟨W, ⟨100, G1, 0, fd0 names most, none, none, none, rfl, gw1, Grow.boxN gw1 h0 hb, hb.same fun o ho => g1.same _ _ ho, F1, hid0 c, rfl, rfl, Nat.le_refl _, (fun _ z => nomatch z), Nat.zero_le _, rfl⟩, ?_⟩
  rintro m σ' H' ⟨G', i, f, y6, y7, y8, rfl, g, n', bx, F, Hd, hfn, hfm, hal, hax, hcnt, rfl⟩
  have hshort : f.short = shortOf names most := by
    show shortOf f.names f.most = _
    rw [hfn, hfm]
  have hi : i ≤ 24 := by
    have h1 := cnt_le f
    rw [hshort] at h1
    have h2 := c.few
    unfold need at hcnt
    omega
  have ho : f.Ok := ⟨by rw [hfn]; exact c.n3, by rw [hfm]; exact c.m3, by omega⟩
  obtain ⟨nF, dx, fs, hx, hfd⟩ := F.ex
  refine (et_B (ev_isN (c := cF c0 K a fs) (K := K) (d := optBs f.found) (ev_meth () (i := 4) rfl hfd ho (by decide +kernel) ea_nil trivial) f.found.isNone fun G v hv => ?_)) G' H' (Same.refl G') g.s ⟨trivial, dx, hx⟩ _ fun bb G2 H2 g2 _ e => ?_
  · cases q : f.found with
    | none => rw [q] at hv; exact nonN hv
    | some o => rw [q] at hv; exact nonD (d := bsD true o) (fun z => nomatch z) hv
  have e : bb = f.found.isNone := e
  have g2 : Grow B0 G' H' G2 H2 := g2
  have gw2 : Grow (fun a => a = b) G' H' G2 H2 := Grow.wide g2
  have gg2 := g.trans gw2
  have n2 := Grow.boxN gw2 n' bx
  have bx2 := bx.same fun o ho => g2.same _ _ ho
  have F2 := F.grow0 g2
  have dn2 := dp_mono gg2.g _ _ d1
  have dh2 := dp_mono gg2.g _ _ d3
  rcases Hd.found_or with hf | hf
  · -- not yet found
    rw [hf] at e
    subst e
    rw [if_pos (show (Option.isNone (none : Option (List Wd))) = true from rfl)]
    refine ⟨fun σ'' H'' => W (100 - (i + 1)) σ'' H'', fun σ'' H'' q => ⟨_, by omega, q⟩, ?_⟩
    -- what stands behind the choice of a row
    have cont : ∀ (D : Ends), (∀ σ'' H'', W (100 - (i + 1)) σ'' H'' → D.nx σ'' H'') → ∀ (v : V) (l : Wd) (G3 H3 : Hp), Grow (fun a => a = b) G2 H2 G3 H3 → G3 b = none → BoxAt b (N + 40 * i + 10) H3 → FinAt K a f G3 H3 → Dp K G3 v (wd l) → (∀ x ∈ l, x ∈ names) → need (i + 1) ≤ (f.put l (does h l)).cnt →
        tSeq (tDrop (tMeth (FC K) "answered" (spAnswered K) [] E0 (tVar 4) (tCons (tVar 6) (tCons (tCall (spDone K) [] E0 (tCons (tVar 3) (tCons (tVar 6) tNil))) tNil))))
          (tSeq (tAsg (tOp (rI0 fun i j => .int (i + j)) (tVar 5) (tC (.int 1))) (gName 5))
            (tIfS (tOr (tTest (tOp (rI0 fun i j => .bl (decide (j < i))) (tVar 5) (tC (.int 80)))) (tNot (tB (tCall (spWay K) [] E0 (tCons (tVar 4) (tCons (tVar 3) (tCons (tVar 1) (tCons (tVar 0) tNil)))))))) (tRet (tC (.bl false))) tNext))
          D [some (.ref b), some v1, some v2, some v3, some (.ref a), some (.int (i : Int)), some v, y7, y8] H3 := by
      intro D hD v l G3 H3 g3 n3 bx3 F3 dv hl hcnt'
      have gg3 := gg2.trans g3
      have dh3 := dp_mono gg3.g _ _ d3
      have hid' := Hd.put l
      refine st_answeredB (c := c0) (l := l) (b := does h l) (Q := fun _ H1 => tSeq _ _ _ _ H1) rfl F3 (fun fs hfd => ea_cons (ev_var rfl dv) (ea_cons (ev_call (h, l) (ea_cons (ev_var rfl dh3) (ea_cons (ev_var rfl dv) ea_nil)) (by show h.length ≤ 100000; omega)) ea_nil)) g3.s trivial (fun z => z) ho (put_ok ho (by omega)) (fun x hx => by rw [hfn]; exact hl x hx) hid'.near_ne fun G4 H4 gr keep _ F4 s4 t4 => ?_
      have gg4 := gr (fun a => a = b) G H (fun _ z => z.elim) gg3 hna
      have bx4 := bx3.same fun o ho => (keep b o (Ne.symm nab) (fun z => z) ho).1
      have n4 : G4 b = none := by
        obtain ⟨x, y, z, hb3, _⟩ := bx3
        exact (keep b _ (Ne.symm nab) (fun z => z) hb3).2 n3
      refine q_asg (c := c0) (K := K) (G := G4) (φ := is (.int ((i : Int) + 1))) (ev_I0 (ev_var rfl (.int _)) ev_int (fun _ => .int _)) t4 trivial fun v5 d5 G5 H5 g5 _ dv5 e5 => ?_
      subst e5
      have hv5 := dp_int dv5
      subst hv5
      have g5 : Grow B0 G4 H4 G5 H5 := g5
      have gw5 : Grow (fun a => a = b) G4 H4 G5 H5 := Grow.wide g5
      refine (et_test ((ev_I0 (K := K) (c := c0) (σ := [some (.ref b), some v1, some v2, some v3, some (.ref a), some (.int ((i : Int) + 1)), some v, y7, y8]) (ev_var (i := 5) rfl (.int _)) ev_int (fun _ => .bl _)).to (e := .bool false) ?_)) G5 H5 (Same.refl G5) g5.s trivial _ fun bb G6 H6 g6 _ e => ?_
      · exact congrArg PyData.bool (decide_eq_false (by omega))
      subst e
      have g6 : Grow B0 G5 H5 G6 H6 := g6
      have gw6 : Grow (fun a => a = b) G5 H5 G6 H6 := Grow.wide g6
      have gg6 := (gg4.trans gw5).trans gw6
      have g46 : Grow B0 G4 H4 G6 H6 := g5.trans g6
      have bx6 := bx4.same fun o ho => g46.same _ _ ho
      have n6 := Grow.boxN (gw5.trans gw6) n4 bx4
      have F6 := F4.grow0 g46
      rw [if_neg Bool.false_ne_true]
      have hpn : (f.put l (does h l)).names = names := hfn
      refine ⟨.ref a, rfl, v3, rfl, v1, rfl, .ref b, rfl, a, b, v3, v1, G6, N + 40 * i + 10, f.put l (does h l), h, rfl, g6.s, n6, bx6, by omega, F6, dp_mono gg6.g _ _ d3, by rw [hpn]; exact dp_mono gg6.g _ _ d1, hid', put_ok ho (by omega), by rw [hpn]; exact hne, hlen, fun v7 G7 H7 g7 n7 bx7 F7 dv7 => ⟨true, dp_bool dv7, ?_⟩⟩
      show D.nx _ H7
      refine hD _ _ ⟨G7, i + 1, f.put l (does h l), some v, y7, y8, rfl, gg6.trans g7, n7, bx7.up (by omega), F7, hid', hfn, hfm, by have := put_len (f := f) (l := l) (b := does h l); omega, fun q hq x hx => ?_, hcnt', ?_⟩
      · rcases mem_put.mp hq with hq | rfl
        · exact hax q hq x hx
        · exact hl x hx
      · rw [Int.natCast_add]
        rfl
    refine (et_test ((ev_I0 (K := K) (c := c0) (σ := [some (.ref b), some v1, some v2, some v3, some (.ref a), some (.int (i : Int)), y6, y7, y8]) (ev_I (ev_var (i := 5) rfl (.int _)) ev_int (by decide) (fun _ => .int _)) ev_int (fun _ => .bl _)).to (e := .bool (decide (i % 3 < 2))) ?_)) G2 H2 (Same.refl G2) g2.s trivial _ fun bb G3 H3 g3 _ e => ?_
    · refine congrArg PyData.bool (decide_eq_decide.mpr ?_)
      rw [Int.fmod_eq_emod_of_nonneg _ (by decide)]
      omega
    have e : bb = decide (i % 3 < 2) := e
    have g3 : Grow B0 G2 H2 G3 H3 := g3
    have gw3 : Grow (fun a => a = b) G2 H2 G3 H3 := Grow.wide g3
    have n3 := Grow.boxN gw3 n2 bx2
    have bx3 := bx2.same fun o ho => g3.same _ _ ho
    have F3 := F2.grow0 g3
    by_cases h3 : i % 3 < 2
    · rw [decide_eq_true h3] at e
      subst e
      rw [if_pos rfl]
      obtain ⟨l, hnext, hls, hnew⟩ := Hd.next hf
      obtain ⟨nF3, dx3, fs3, hx3, hfd3⟩ := F3.ex
      refine ev_meth (c := c0) (K := K) (E := E0) () (i := 4) rfl hfd3 ho (by decide +kernel) ea_nil trivial G3 H3 (Same.refl G3) g3.s ⟨trivial, dx3, hx3⟩ _ fun v6 d6 G4 H4 g4 j4 dv6 e6 => ?_
      subst e6
      have g4 : Grow B0 G3 H3 G4 H4 := g4
      have gw4 : Grow (fun a => a = b) G3 H3 G4 H4 := Grow.wide g4
      have dv6 : Dp K G4 v6 (optW f.next) := dv6
      rw [hnext] at dv6
      refine cont _ (fun σ'' H'' q => q) v6 l G4 H4 (gw3.trans gw4) (Grow.boxN gw4 n3 bx3) ((bx3.same fun o ho => g4.same _ _ ho).up (by omega)) (F3.grow0 g4) dv6 (fun x hx => ?_) ?_
      · rw [hshort] at hls
        exact (mem_shortOf.mp hls).2 x hx
      · have := cnt_new (b := does h l) hls hnew
        unfold need at hcnt ⊢
        omega
    · rw [decide_eq_false h3] at e
      subst e
      rw [if_neg Bool.false_ne_true]
      refine evN_call (K := K) (b := b) (n := 10) (E := E0) (names, 5) (j := 0) rfl (ea_cons (ev_var (i := 1) rfl (dp_mono g3.g _ _ dn2)) (ea_cons (ev_int (i := ((5 : Nat) : Int))) ea_nil)) ⟨hne, by show names.length ≤ 1000; omega, by show 5 ≤ 7; omega⟩ (N + 40 * i) G3 H3 (by omega) (Same.refl G3) g3.s n3 bx3 _ fun v6 d6 G4 H4 g4 n4 bx4 dv6 ⟨l, e6, hl1, hl2⟩ => ?_
      subst e6
      refine cont _ (fun σ'' H'' q => q) v6 l G4 H4 (gw3.trans g4) n4 bx4 (F3.grow nab g4) dv6 hl2 ?_
      have := cnt_put (f := f) l (does h l)
      unfold need at hcnt ⊢
      omega
  · -- found
    rw [hf] at e
    subst e
    rw [if_neg (show ¬ (Option.isNone (some h)) = true from Bool.false_ne_true)]
    obtain ⟨nF2, dx2, fs2, hx2, hfd2⟩ := F2.ex
    have hall : f.asks.length ≤ 30 := by omega
    dsimp only
    refine q_asg (c := cF c0 K a fs2) (K := K) (G := G2) (φ := is (bsD true (f.asks.map fun a => a.1))) ((ev_tupleL (ds := f.asks.map fun a => wd a.1) (ev_map askD f.asks (fun a => wd a.1) (es_L (ev_meth () rfl hfd2 ho (by decide +kernel) ea_nil trivial)) (by omega) (fun _ => rfl) fun q G3 v hq s3 dv => ev_ixT (ds := [wd q.1, .bool q.2]) (i := 0) (ev_var rfl dv) ev_int rfl)).to ?_) g2.s ⟨trivial, dx2, hx2⟩ fun v7 d7 G3 H3 g3 j3 dv7 e => ?_
    · show PyData.tuple _ = .tuple ((f.asks.map fun a => a.1).map wd)
      rw [List.map_map]
      rfl
    subst e
    have g3 : Grow B0 G2 H2 G3 H3 := g3
    have hfd3 := hfd2.mono g3.g
    have hlx : ∀ l ∈ f.asks.map fun a => a.1, ∀ x ∈ l, x ∈ names := fun l hl => by
      obtain ⟨q, hq, rfl⟩ := List.mem_map.mp hl
      exact hax q hq
    have htold := told_again c Hd hshort hf
    refine q_if (c := cF c0 K a fs2) (G := G3) (φ := is false) ((et_or (a := false) (b := false) ((et_not (b := true) (et_B (ev_call (bsD true h) (ea_cons ((ev_meth () rfl hfd3 ho (by decide +kernel) ea_nil trivial).to ?_) (ea_cons (ev_var rfl (dp_mono g3.g _ _ dh2)) ea_nil)) (same_bs 0 h (by omega) hwl)))).to rfl) fun _ => (et_not (b := true) (et_B ((ev_call (names, most, h, f.asks.map fun a => a.1) (ea_cons (ev_var rfl (dp_mono g3.g _ _ dn2)) (ea_cons (ev_var rfl (dp_mono (gg2.g.trans g3.g) _ _ d2)) (ea_cons (ev_var rfl (dp_mono g3.g _ _ dh2)) (ea_cons (ev_var rfl dv7) ea_nil)))) ⟨c, by show (f.asks.map fun a => a.1).length ≤ 400; rw [List.length_map]; omega, hlx⟩).to ?_))).to rfl).to rfl) g3.s j3 fun bb G4 H4 g4 _ e => ?_
    · show optBs f.found = _
      rw [hf]
      rfl
    · show PyData.bool (decide ((after names most h _).found = some h)) = _
      rw [htold, decide_eq_true rfl]
    subst e
    have g4 : Grow B0 G3 H3 G4 H4 := g4
    have g24 : Grow B0 G2 H2 G4 H4 := g3.trans g4
    have hleast := paper_least c Hd hshort hax (Hd.taught hf)
    rw [if_neg Bool.false_ne_true]
    unfold tNext
    dsimp only
    refine st_ret (c := c0) (K := K) (G := G4) (φ := is (.bool true)) (ev_call ((names, most, h), f.asks.length) (ea_cons (ev_var rfl (dp_mono g24.g _ _ dn2)) (ea_cons (ev_var rfl (dp_mono (gg2.g.trans g24.g) _ _ d2)) (ea_cons (ev_var rfl (dp_mono g24.g _ _ dh2)) (ea_cons ((ev_lenT (ev_var rfl (dp_mono g4.g _ _ dv7))).to (by rw [List.length_map, List.length_map])) ea_nil)))) ⟨c, hleast⟩) g4.s trivial fun v d G5 H5 g5 _ dv e => ?_
    subst e
    have g25 : Grow B0 G2 H2 G5 H5 := g24.trans g5
    have gw25 : Grow (fun a => a = b) G2 H2 G5 H5 := Grow.wide g25
    exact k v _ G5 H5 (gg2.trans gw25) (Grow.boxN gw25 n2 bx2) ((bx2.same fun o ho => g25.same _ _ ho).up (by omega)) dv rfl
end
end Mk
/-! ## MkText2 -/
set_option autoImplicit true
set_option Elab.async false
set_option linter.all false
set_option maxRecDepth 100000
set_option maxHeartbeats 4000000
namespace Mk
open PySem PySem.Spec PyProof.Rows L2
def chV (x : Str) : List V := x.cps.toList.map fun c => V.str ⟨#[c]⟩
def chD (x : Str) : List PyData := x.cps.toList.map fun c => PyData.str ⟨#[c]⟩
theorem chDp {K : PySem.W.Frag} (G : Hp) (x : Str) : DpAll K G (chV x) (chD x) := by
  unfold chV chD
  generalize x.cps.toList = l
  induction l with
  | nil => exact .nil
  | cons c l ih => exact .cons (.str _) ih
theorem app_cps (x y : Str) : (x ++ y).cps.toList = x.cps.toList ++ y.cps.toList := by
  show (x.cps ++ y.cps).toList = _
  simp
theorem join_cps : ∀ ys : List Str, (Txt.join ⟨#[]⟩ ys).cps.toList = (ys.map fun y => y.cps.toList).flatten
  | [] => by rw [TL.join_eq]; rfl
  | [x] => by
    rw [TL.join_eq]
    show x.cps.toList = [x.cps.toList].flatten
    simp
  | x :: y :: r => by
    have ih := join_cps (y :: r)
    rw [TL.join_eq] at ih ⊢
    show (x ++ (⟨#[]⟩ : Str) ++ Str.join ⟨#[]⟩ (y :: r)).cps.toList = _
    rw [app_cps, app_cps, ih]
    simp
section
variable {X : Cx} {K : PySem.W.Frag}
/-- list(a text) -/
theorem k_listStr (hc : X.calm = true) : CallR X (.type "list") (fun (xs : List V) (H : Hp) (Q : VK) => ∃ x : Str, xs = [V.str x] ∧ x.cps.size ≤ 100000 ∧ ∀ l, H l = none → Q (.ref l) (upd H l (.lst (chV x)))) := by
  intro pins s σ H xs us Q I r h
  obtain ⟨x, rfl, hx, q⟩ := h
  obtain ⟨u, rfl, t, rfl⟩ := vals1 r
  refine PySem.call_list_str (I.ok.hd hc) x t (fun h' tk acc' c' hk ho hi => ?_) (Nat.le_trans hx (by decide))
  have rv : Vals (chV x) acc'.toList := by
    have key : ∀ (n : Nat) (ws : List Value) (cs : List Nat), ws.length = n → cs.length = n → (∀ (j : Nat) (v : Value), ws[j]? = some v → ∃ c u, cs[j]? = some c ∧ v = Value.str ⟨#[c]⟩ u) → Vals (cs.map fun c => V.str ⟨#[c]⟩) ws := by
      intro n
      induction n with
      | zero =>
        intro ws cs h1 h2 _
        have e1 := List.length_eq_zero_iff.mp h1
        have e2 := List.length_eq_zero_iff.mp h2
        subst e1 e2
        exact .nil
      | succ n ih =>
        intro ws cs h1 h2 hh
        match ws, cs, h1, h2 with
        | v :: ws, c :: cs, h1, h2 =>
          obtain ⟨c', u, e, rfl⟩ := hh 0 v rfl
          have e : c = c' := Option.some.inj e
          subst e
          exact .cons ⟨u, rfl⟩ (ih ws cs (by simpa using h1) (by simpa using h2) fun j v hj => hh (j + 1) v hj)
    refine key x.cps.size acc'.toList x.cps.toList (by rw [Array.length_toList]; exact hi.1) (by rw [Array.length_toList]) fun j v hj => ?_
    obtain ⟨c, u, e1, e2⟩ := hi.2 j v (by rw [← Array.getElem?_toList]; exact hj)
    exact ⟨c, u, by rw [Array.getElem?_toList]; exact e1, e2⟩
  have hlen : (chV x).length ≤ sizeLine := by
    unfold chV
    rw [List.length_map, Array.length_toList]
    exact Nat.le_trans hx (by decide)
  exact ⟨.ref s.heap.objs.size, _, I.laid (t' := tk) hk (Nat.le_refl _) (show ObjOk X.prog X.w _ h' _ (.lst (chV x)) from ⟨hlen, acc'.toList, c', rv, by simpa using ho⟩), rfl, q _ (I.hok.fresh (Nat.le_refl _))⟩
theorem k_join {o e : Expr} {to te : TE} {apos pos : Pos} (hK : X.K = K) (ho : PE X o to) (he : PE X e te) (hs : starEach [e] X.env = [(false, eval e X.env)] := by rfl) (hbase : attributeBase o "join" X.env (eval o X.env) = eval o X.env := by rfl) (hline : (apos.endLine == pos.line) = true := by rfl) :
    PE X (.Call (.Attribute o "join" apos) [e] [] pos) (tM1 (fun x xs H Q => ∃ a p, ∃ ys : List Str, x = .str a ∧ xs = [.ref p] ∧ (SqL K H p (ys.map V.str) ∨ SqT K H p (ys.map V.str)) ∧
      (ys.map (·.length)).sum + ys.length * a.length ≤ 16777216 ∧ Q (.str (Txt.join a ys)) H) to te) := by subst hK; exact pe_join ho he hs hbase hline
theorem k_sortedL (hK : X.K = K) (hu : X.A.units + 65 < cLine) : CallR X (.builtin "sorted") (rSortedL K) := by subst hK; exact cr_sortedL hu
end
section
variable {c : Ctx} {K : PySem.W.Frag} {σ : St} {G G' H : Hp} {te ta tb tl to : TE} {φ ψ χ : PyData → Prop} {ds es : List PyData} {b : Addr} {n m : Nat}
theorem dpa_strs : ∀ {ys : List Str} {vs : List V}, DpAll K G vs (ys.map .str) → vs = ys.map V.str
  | [], _, h => by cases h; rfl
  | y :: ys, _, h => by
    cases h with
    | cons a t => rw [dp_str a, dpa_strs t]; rfl
/-- ''.join(xs) -/
theorem evN_join (h : EvN K b n te σ G (fun d => ∃ ys : List Str, d = .list (ys.map .str) ∧ (ys.map (·.length)).sum ≤ 10000000 ∧ χ (.str (Txt.join ⟨#[]⟩ ys)))) : EvN K b n (tM1 (fun x xs H Q => ∃ a p, ∃ ys : List Str, x = .str a ∧ xs = [.ref p] ∧ (SqL K H p (ys.map V.str) ∨ SqT K H p (ys.map V.str)) ∧
      (ys.map (·.length)).sum + ys.length * a.length ≤ 16777216 ∧ Q (.str (Txt.join a ys)) H) (tC (.str ⟨#[]⟩)) te) σ G χ := fun N G0 H hN s t h0 hb Q q =>
  ⟨⟨_, rfl⟩, h N G0 H hN s t h0 hb _ fun v d G1 H1 g1 n1 b1 d1 ⟨ys, e, hy, p⟩ => by
    subst e
    obtain ⟨a, xs, rfl, h3, h4⟩ := dp_list d1
    have e := dpa_strs h4
    subst e
    refine ⟨⟨#[]⟩, a, ys, rfl, rfl, .inl (g1.s.seq h3), ?_, q _ _ G1 H1 g1 n1 b1 (.str _) p⟩
    show (ys.map (·.length)).sum + ys.length * 0 ≤ 16777216
    omega⟩
theorem ev_catS (ha : Ev c K ta σ G (is (.list ds))) (hb : Ev c K tb σ G (is (.list es))) (hl : ds.length + es.length ≤ 100000) : Ev c K (tOp (rCatS K) ta tb) σ G (is (.list (ds ++ es))) :=
  ev_opN ha hb fun G1 H1 x y d e s1 h1 h2 p1 p2 Q q => by
    subst p1 p2
    obtain ⟨a, xs, rfl, h3, h4⟩ := dp_list h1
    obtain ⟨b, ys, rfl, h5, h6⟩ := dp_list h2
    exact ⟨a, b, xs, ys, rfl, rfl, s1.seq h3, s1.seq h5, by rw [dpa_len h4, dpa_len h6]; exact Nat.le_trans hl (by decide), fun p hp => q _ _ _ _ (Grow.new s1 hp) (.lst (.inl (.inl upd_same)) (dpa_mono (same_new (s1.free hp)) _ _ (dpa_app h4 h6))) rfl⟩
end
end Mk
/-! ## MkW16 -/
set_option autoImplicit true
set_option Elab.async false
set_option linter.all false
set_option maxRecDepth 100000
set_option maxHeartbeats 4000000
namespace Mk
open PySem PySem.Spec PyProof.Rows L2 MkM
abbrev chS (c : Nat) : Str := ⟨#[c]⟩
abbrev chO (c : Nat) : PyData := .str (chS c)
theorem map_erase {α β : Type} (f : α → β) : ∀ (l : List α) (k : Nat), (l.eraseIdx k).map f = (l.map f).eraseIdx k
  | [], _ => rfl
  | _ :: _, 0 => rfl
  | x :: l, k + 1 => by
    show f x :: (l.eraseIdx k).map f = f x :: (l.map f).eraseIdx k
    rw [map_erase f l k]
theorem perm_erase {α : Type} : ∀ {l : List α} {k : Nat} (h : k < l.length), (l[k] :: l.eraseIdx k).Perm l
  | x :: l, 0, _ => List.Perm.refl _
  | x :: l, k + 1, h => by
    have h' : k < l.length := by simpa using h
    show (l[k] :: x :: l.eraseIdx k).Perm (x :: l)
    exact (List.Perm.swap _ _ _).trans ((perm_erase h').cons x)
section
variable {c : Ctx} {K : PySem.W.Frag} {σ : St} {G H : Hp} {ta tb : TE}
theorem ev_min2 {i j : Int} (ha : Ev c K ta σ G (is (.int i))) (hb : Ev c K tb σ G (is (.int j))) : Ev c K (tCB (fun xs H Q => ∃ i j, xs = [.int i, .int j] ∧ Q (.int (if j < i then j else i)) H) (tCons ta (tCons tb tNil))) σ G (is (.int (if j < i then j else i))) :=
  ev_cb (as := dats [.int i, .int j]) (ea_cons ha (ea_cons hb ea_nil)) fun G1 H1 vs s1 p1 Q q => by
    obtain ⟨v1, v2, rfl, d1, d2⟩ := dpa_two (agOk_dats p1)
    rw [dp_int d1, dp_int d2]
    exact ⟨i, j, rfl, q _ _ G1 H1 (Grow.refl s1) (.int _) rfl⟩
end
section
variable {P : Program} {w : World} {K : PySem.W.Frag} {mg : Str → Option Value} {base : Heap}
/-! ### _law_pick -/
-- slots: 0 _law_box_here, 1 _law_goods_so, 2 _law_count_so, 3 _law_pool_so, 4 _law_found, 5 _law_turn
abbrev N_l_pick : List Str := ["_law_box_here", "_law_goods_so", "_law_count_so", "_law_pool_so", "_law_found", "_law_turn"]
theorem sc_l_pick : FnScope N_l_pick ["_law_box_here", "_law_goods_so", "_law_count_so"] (defScope st_l_pick) := ⟨rfl, rfl, rfl, by decide +kernel, rfl, by decide +kernel, by decide +kernel⟩
theorem bd_l_pick : BindOk "_law_pick" "_law_pick" st_l_pick ["_law_box_here", "_law_goods_so", "_law_count_so"] := fun _ _ _ _ _ _ us hl => match us, hl with | [_, _, _], _ => rfl
abbrev spPick (K : PySem.W.Frag) : Sp := spB K 3 (fun i : Str × Nat => [.str i.1, .int (i.2 : Int)]) (fun i => i.1.cps.toList.Nodup ∧ i.1.cps.toList.length ≤ 1000 ∧ i.2 ≤ 3 ∧ i.2 ≤ i.1.cps.toList.length) (fun i d => ∃ cs : List Nat, d = .list (cs.map chO) ∧ cs.length = i.2 ∧ cs.Nodup)
theorem ok_l_pick (T : Txt K mg) : Callee P w K mg base 2 "_law_pick" ["_law_box_here", "_law_goods_so", "_law_count_so"] (spPick K) := by
  have C_l_take : Callee P w K mg base 1 "_law_take" ["_law_box_here", "_law_size_so"] (spTake K) := ok_l_take T
  refine callee_of T.f_l_pick T.g_l_pick sc_l_pick bd_l_pick (spB_len fun _ => rfl) fun cdv A outer s H vs Q E hr hh => ?_
  obtain ⟨b, ws, ⟨x, n⟩, G, N, rfl, hs, h0, hb, hN, ha, ⟨hnd, hxl, hn3, hnx⟩, k⟩ := hh
  have hnd : x.cps.toList.Nodup := hnd
  have hxl : x.cps.toList.length ≤ 1000 := hxl
  have hn3 : n ≤ 3 := hn3
  have hnx : n ≤ x.cps.toList.length := hnx
  have hN : N + 3 ≤ LIM := hN
  obtain ⟨v1, v2, rfl, d1, d2⟩ := dpa_two ha
  have e1 := dp_str d1
  subst e1
  refine ⟨_, (pss_cons (ps_par (i := 3) (j := 4) (by rfl) sc_l_pick.nd rfl rfl (by decide) rfl rfl (pa_cons (pe_callTy (T := "list") (k_listStr rfl) (by rfl) T.b_list (by decide +kernel) (pa_cons (pv 1) pa_nil)) (pa_cons (pe_lst pa_nil) pa_nil)) (by rfl))
        (pss_cons (ps_for PassesOwn.never rfl (pi_range1 rfl T.b_range (pa_cons (pe_callB (id := "min") (call_min2 rfl) (by rfl) T.b_min (by decide +kernel) (pa_cons (pe_callTy (T := "int") call_int1 (by rfl) T.b_int (by decide +kernel) (pa_cons (pv 2) pa_nil)) (pa_cons (pe_callB (id := "len") (k_len (K := K) rfl) (by rfl) T.b_len (by decide +kernel) (pa_cons (pv 3) pa_nil)) pa_nil))) pa_nil)) (pg_name (i := 5) sc_l_pick.nd rfl (by first | exact Or.inl rfl | exact Or.inr rfl)) (pss_one (ps_expr (k_bm (K := K) rfl PySem.F.plainAttrs_list PySem.F.slot_list_append PySem.F.type_list_append mt_append (pv 4) (pa_cons (k_bm (K := K) rfl PySem.F.plainAttrs_list PySem.F.slot_list_pop PySem.F.type_list_pop mt_popAt (pv 3) (pa_cons (pe_callC C_l_take hr (by omega) rfl (pa_cons (pv 0) (pa_cons (pe_callB (id := "len") (k_len (K := K) rfl) (by rfl) T.b_len (by decide +kernel) (pa_cons (pv 3) pa_nil)) pa_nil))) pa_nil)) pa_nil)))))
        (pss_one (ps_ret (pv 4))))), ?_⟩
  refine q_par ?_
  refine ⟨.str x, rfl, x, rfl, by rw [← Array.length_toList]; omega, fun p hp => ?_⟩
  have np : G p = none := hs.free hp
  have npb : p ≠ b := fun e => hb.ne (by rw [← e]; exact hp)
  have g1 : Grow (fun a => a = b) G H G (upd H p (.lst (chV x))) := (Grow.refl hs).mut (.inl hp) np
  have m1 : ML K p G (upd H p (.lst (chV x))) (x.cps.toList.map chO) := ⟨np, _, upd_same, chDp G x⟩
  generalize hH1 : upd H p (.lst (chV x)) = H1 at g1 m1
  refine evL_lst (c := c0) (K := K) (σ := start N_l_pick [.ref b, .str x, v2]) (ds := []) ex_nil (by simp) G H1 (Same.refl G) g1.s trivial _ fun f G2 H2 hf g2 _ m2 => ?_
  have g2 : Grow B0 G H1 G2 H2 := g2
  have gw2 : Grow (fun a => a = b) G H1 G2 H2 := Grow.wide g2
  have m1' := m1.grow0 g2
  have nfp : f ≠ p := fun e => by
    obtain ⟨_, acc, z, _⟩ := m1.ex
    rw [e, z] at hf
    cases hf
  have hf0 : H f = none := by
    rw [← hH1, upd_ne nfp] at hf
    exact hf
  have nfb : f ≠ b := fun e => hb.ne (by rw [← e]; exact hf0)
  have gg2 := g1.trans gw2
  have hb1 : BoxAt b N H1 := hb.same fun o ho => by rw [← hH1, upd_ne (Ne.symm npb)]; exact ho
  have hb2 := hb1.same fun o ho => g2.same _ _ ho
  have nb2 := Grow.boxN gg2 h0 hb
  refine ⟨.ref p, .ref f, rfl, ?_⟩
  obtain ⟨_, acc2, ha1, ha2⟩ := m1'.ex
  refine q_forI (c := cK c0 p (.lst acc2)) (K := K) (G := G2) (fun i : Nat => PyData.int (i : Int)) (List.range n) (es_range (n := n) (ea_cons ((ev_min2 (ev_int1 (ev_var rfl (dp_mono gg2.g _ _ d2))) (ev_lenM (c := cK c0 p (.lst acc2)) (i := 3) rfl (fun H j => j.2) ha2)).to ?_) ea_nil) (by omega)) g2.s ⟨trivial, ha1⟩
    (fun i σ' G' H' => Grow (fun a => a = b) G H G' H' ∧ G' b = none ∧ BoxAt b (N + i) H' ∧ ∃ (ps fs : List Nat) (y5 : Option V), ML K p G' H' (ps.map chO) ∧ ML K f G' H' (fs.map chO) ∧ fs.length = i ∧ ps.length + i = x.cps.toList.length ∧ (ps ++ fs).Nodup ∧ σ' = [some (.ref b), some (.str x), some v2, some (.ref p), some (.ref f), y5])
    (fun G3 H3 g3 j3 => ?_) (fun i σ' G' H' q => q.1.s) ?_ ?_
  · rw [List.length_map]
    show PyData.int (if ((x.cps.toList.length : Nat) : Int) < (n : Int) then _ else _) = _
    rw [if_neg (by omega)]
  · have g3 : Grow B0 G2 H2 G3 H3 := g3
    have gw3 : Grow (fun a => a = b) G2 H2 G3 H3 := Grow.wide g3
    exact ⟨gg2.trans gw3, Grow.boxN gw3 nb2 hb2, (hb2.same fun o ho => g3.same _ _ ho).up (by omega), x.cps.toList, [], none, m1'.grow0 g3, m2.grow0 g3, rfl, rfl, by rw [List.append_nil]; exact hnd, rfl⟩
  · rintro G0 hG i xi σ' G' H' hx s0 ⟨g, nb, bx, ps, fs, y5, mp, mf, hfl, hpl, hnd', rfl⟩ v G3 H3 g3 dv
    refine ⟨_, tg_name, ?_⟩
    have hin : i < n := by
      rcases Nat.lt_or_ge i n with z | z
      · exact z
      · rw [List.getElem?_eq_none (by rw [List.length_range]; exact z)] at hx
        cases hx
    have gw3 : Grow (fun a => a = b) G' H' G3 H3 := Grow.wide g3
    have nb3 := Grow.boxN gw3 nb bx
    have bx3 := bx.same fun o ho => g3.same _ _ ho
    have mp3 := mp.grow0 g3
    have mf3 := mf.grow0 g3
    obtain ⟨np3, acc, hacc, dacc⟩ := mp3.ex
    obtain ⟨nf3, facc, hfacc, dfacc⟩ := mf3.ex
    have hps : 0 < ps.length := by omega
    refine ⟨.ref f, rfl, .inl ⟨rfl, facc, .inl (.inl hfacc)⟩, .ref p, rfl, .inl ⟨rfl, acc, .inl (.inl hacc)⟩, ?_⟩
    have dk : Dp K (upd G3 p (.lst acc)) (.ref p) (.list (ps.map chO)) := .lst (.inl (.inl upd_same)) (dpa_mono (same_new np3) _ _ dacc)
    refine evN_call (K := K) (b := b) (n := 1) (E := E0) ps.length (j := 0) rfl (ea_cons ((ev_lenL (ev_var (i := 3) rfl dk)).to (by rw [List.length_map])) ea_nil) ⟨hps, by omega⟩ (N + i) (upd G3 p (.lst acc)) H3 (by omega) (Same.refl _) (same_know g3.s hacc) (by rw [upd_ne (Ne.symm npb)]; exact nb3) bx3 _ fun u d G4 H4 g4 n4 bx4 du ⟨kk, e, hk⟩ => ?_
    subst e
    have hu := dp_int du
    subst hu
    have g4' : Grow (fun a => a = b) G3 H3 (unknow G4 p) H4 := g4.unknow np3
    have mp4 := mp3.grow npb g4'
    have mf4 := mf3.grow nfb g4'
    obtain ⟨np4, acc4, hacc4, dacc4⟩ := mp4.ex
    obtain ⟨nf4, facc4, hfacc4, dfacc4⟩ := mf4.ex
    have hx' : (ps.map chO)[kk]? = some (chO ps[kk]) := by rw [List.getElem?_map, List.getElem?_eq_getElem hk]; rfl
    obtain ⟨y, hy, dy⟩ := dpa_get dacc4 hx'
    have hal : acc4.length = ps.length := by rw [dpa_len dacc4, List.length_map]
    have hsq := ixN_seq (n := acc4.length) (i := (kk : Int)) (j := kk) (by unfold L2.ixN; rw [if_pos (by omega), if_pos (by omega), Int.toNat_natCast])
    refine ⟨p, acc4, (kk : Int), kk, y, rfl, rfl, hacc4, by omega, by omega, hsq.1, hy, f, facc4, y, rfl, rfl, by rw [upd_ne nfp]; exact hfacc4, by rw [dpa_len dfacc4, List.length_map, hfl]; exact Nat.lt_of_lt_of_le (show i < 100 by omega) (by decide), ?_⟩
    have gA := (g.trans gw3).trans g4'
    have gB : Grow (fun a => a = b) G H (unknow G4 p) (upd H4 p (.lst (acc4.eraseIdx kk))) := gA.mut (.inl hp) np4
    have gC : Grow (fun a => a = b) G H (unknow G4 p) (upd (upd H4 p (.lst (acc4.eraseIdx kk))) f (.lst (facc4 ++ [y]))) := gB.mut (.inl hf0) nf4
    refine ⟨unknow G4 p, (s0.trans g3.g).trans g4'.g, gC, Grow.boxN g4' nb3 bx3, (bx4.same fun o ho => by rw [upd_ne (Ne.symm nfb), upd_ne (Ne.symm npb)]; exact ho).up (by omega), ps.eraseIdx kk, fs ++ [ps[kk]], some v, ⟨np4, acc4.eraseIdx kk, by rw [upd_ne (Ne.symm nfp)]; exact upd_same, ?_⟩, ⟨nf4, _, upd_same, ?_⟩, by rw [List.length_append, hfl]; rfl, ?_, ?_, rfl⟩
    · have := dpa_erase kk dacc4
      rw [map_erase]
      exact this
    · rw [List.map_append]
      exact dpa_app dfacc4 (.cons dy .nil)
    · rw [List.length_eraseIdx_of_lt hk]
      omega
    · have hperm : (ps[kk] :: ps.eraseIdx kk).Perm ps := perm_erase hk
      have h2 : (ps.eraseIdx kk ++ (fs ++ [ps[kk]])).Perm (ps ++ fs) := by
        refine List.Perm.trans ?_ (hperm.append_right fs)
        rw [← List.append_assoc]
        exact List.perm_append_singleton _ _
      exact h2.nodup_iff.mpr hnd'
  · rintro σ' G' H' sg ⟨g, nb, bx, ps, fs, y5, mp, mf, hfl, hpl, hnd', rfl⟩
    rw [List.length_range] at hfl bx
    obtain ⟨G3, g3, k3, s3, n3⟩ := mf.know g hf0 hs
    have hfs : fs.Nodup := (List.nodup_append.mp hnd').2.1
    refine st_ret (c := c0) (K := K) (G := G3) (φ := is (.list (fs.map chO))) (ev_var rfl k3.dp) g3.s trivial fun v d G4 H4 g4 _ dv e => ?_
    subst e
    have g4 : Grow B0 G3 H' G4 H4 := g4
    have gw4 : Grow (fun a => a = b) G3 H' G4 H4 := Grow.wide g4
    have nb3 := n3 b (Ne.symm nfb) nb
    exact k v _ G4 H4 (g3.trans gw4) (Grow.boxN gw4 nb3 bx) ((bx.same fun o ho => g4.same _ _ ho).up (by omega)) dv ⟨fs, rfl, hfl, hfs⟩
end
end Mk
/-! ## MkW17 -/
set_option autoImplicit true
set_option Elab.async false
set_option linter.all false
set_option maxRecDepth 100000
set_option maxHeartbeats 4000000
namespace Mk
open PySem PySem.Spec PyProof.Rows L2 MkM
abbrev LT : Str := "abcdefghijklmnopqrstuvwxyz"
theorem LT_nd : LT.cps.toList.Nodup := by decide +kernel
theorem LT_len : LT.cps.toList.length = 26 := by decide +kernel
section
variable {c : Ctx} {K : PySem.W.Frag} {σ : St} {G H : Hp} {ta tb te tl : TE} {b f : Addr} {n N : Nat} {φ : PyData → Prop} {ds : List PyData} {D : Ends} {tz : TS} {g : TG} {tw : TS}
theorem st_appN {i : Nat} (hv : σ[i]? = some (some (.ref f))) (m : ML K f G H ds) (nfb : f ≠ b) (h : EvN K b n te σ G φ) (hN : N + n ≤ LIM) (s : Same G H) (h0 : G b = none) (hb : BoxAt b N H) (hl : ds.length < 100000)
    (k : ∀ d G1 H1, (∀ G0 H0, Grow (fun a => a = b) G0 H0 G H → H0 f = none → Grow (fun a => a = b) G0 H0 G1 H1) → G1 b = none → BoxAt b (N + n) H1 → φ d → ML K f G1 H1 (ds ++ [d]) → Same G G1 → Same G1 H1 → D.nx σ H1) : tDrop (tBM K "list" rAppend (tVar i) (tCons te tNil)) D σ H := by
  obtain ⟨m0, acc, m1, m2⟩ := m.ex
  refine ⟨.ref f, hv, .inl ⟨rfl, acc, .inl (.inl m1)⟩, h N G H hN (Same.refl G) s h0 hb _ fun v d G1 H1 g1 n1 b1 d1 p1 => ?_⟩
  have f1 : H1 f = some (.lst acc) := g1.h _ _ nfb m1
  have nf1 : G1 f = none := g1.none1 (by rw [m1]; exact fun z => nomatch z) m0
  have s1 : Same G1 (upd H1 f (.lst (acc ++ [v]))) := fun a u q => by
    rw [upd_ne (ne_of_none q nf1)]
    exact g1.s a u q
  exact ⟨f, acc, v, rfl, rfl, f1, by rw [dpa_len m2]; exact Nat.lt_of_lt_of_le hl (by decide), k d G1 _ (fun G0 H0 x hn => (x.trans g1).mut (.inl hn) nf1) n1 (b1.same fun o ho => by rw [upd_ne (Ne.symm nfb)]; exact ho) p1 ⟨nf1, _, upd_same, dpa_app (dpa_mono g1.g _ _ m2) (.cons d1 .nil)⟩ g1.g s1⟩
/-- for over a drawn list -/
theorem q_forN {Φ : List PyData → Prop} (h : EvN K b n tl σ G (fun d => ∃ ds, d = .list ds ∧ Φ ds)) (hN : N + n ≤ LIM) (s : Same G H) (h0 : G b = none) (hb : BoxAt b N H)
    (k : ∀ v ds G1 H1, Grow (fun a => a = b) G H G1 H1 → G1 b = none → BoxAt b (N + n) H1 → Dp K G1 v (.list ds) → Φ ds → tSeq (tFor (iSq K (tC v)) g tw) tz D σ H1) : tSeq (tFor (iSq K tl) g tw) tz D σ H :=
  h N G H hN (Same.refl G) s h0 hb _ fun v d G1 H1 g1 n1 b1 d1 ⟨ds, e, p⟩ => by
    subst e
    exact k v ds G1 H1 g1 n1 b1 d1 p
theorem sum_ones : ∀ cs : List Nat, ((cs.map chS).map (·.length)).sum = cs.length
  | [] => rfl
  | c :: cs => by
    rw [List.map_cons, List.map_cons, List.sum_cons, sum_ones cs, List.length_cons]
    show 1 + cs.length = _
    omega
theorem join_ones (cs : List Nat) : (Txt.join ⟨#[]⟩ (cs.map chS)).cps.toList = cs := by
  rw [join_cps, List.map_map]
  induction cs with
  | nil => rfl
  | cons c cs ih =>
    rw [List.map_cons, List.flatten_cons, ih]
    rfl
theorem map_chO (cs : List Nat) : cs.map chO = (cs.map chS).map .str := by rw [List.map_map]; rfl
end
/-- names that differ by their sign -/
def Signed (pre : List Nat) (signs : List Nat) (x : Str) : Prop := ∃ c ∈ signs, ∃ r, x.cps.toList = pre ++ c :: r
section
variable {P : Program} {w : World} {K : PySem.W.Frag} {mg : Str → Option Value} {base : Heap}
/-! ### _law_names -/
-- slots: 0 _law_box_here*, 1 _law_much_so, 2 _law_letters_so*, 3 _law_long, 4 _law_some, 5 _law_sort_so, 6 _law_spot_so, 7 _law_found, 8 _law_sign, 9 _law_turn
abbrev N_l_names : List Str := ["_law_box_here", "_law_much_so", "_law_letters_so", "_law_long", "_law_some", "_law_sort_so", "_law_spot_so", "_law_found", "_law_sign", "_law_turn"]
theorem sc_l_names : FnScope N_l_names ["_law_box_here", "_law_much_so"] (defScope st_l_names) := ⟨rfl, rfl, rfl, by decide +kernel, rfl, by decide +kernel, by decide +kernel⟩
theorem bd_l_names : BindOk "_law_names" "_law_names" st_l_names ["_law_box_here", "_law_much_so"] := fun _ _ _ _ _ _ us hl => match us, hl with | [_, _], _ => rfl
abbrev spNames (K : PySem.W.Frag) : Sp := spB K 60 (fun n : Nat => [.int (n : Int)]) (fun n => n ≤ 3) (fun n d => ∃ xs : List Str, d = .list (xs.map .str) ∧ xs.length = n ∧ xs.Nodup)
theorem ok_l_names (T : Txt K mg) : Callee P w K mg base 3 "_law_names" ["_law_box_here", "_law_much_so"] (spNames K) := by
  have C_l_take : Callee P w K mg base 1 "_law_take" ["_law_box_here", "_law_size_so"] (spTake K) := ok_l_take T
  have C_l_of : Callee P w K mg base 2 "_law_of" ["_law_box_here", "_law_goods_so"] (spOfS K) := ok_l_ofS T
  have C_l_pick : Callee P w K mg base 2 "_law_pick" ["_law_box_here", "_law_goods_so", "_law_count_so"] (spPick K) := ok_l_pick T
  refine callee_of T.f_l_names T.g_l_names sc_l_names bd_l_names (spB_len fun _ => rfl) fun cdv A outer s H vs Q E hr hh => ?_
  obtain ⟨b, ws, n, G, N, rfl, hs, h0, hb, hN, ha, hn3, k⟩ := hh
  have hn3 : n ≤ 3 := hn3
  have hN : N + 60 ≤ LIM := hN
  obtain ⟨v1, rfl, d1⟩ := dpa_one ha
  have hLT := LT_len
  have hLs : LT.length = 26 := by
    show LT.cps.size = 26
    rw [← Array.length_toList]
    exact hLT
  refine ⟨_, (pss_cons (ps_set (i := 2) sc_l_names.nd rfl (by first | exact Or.inl rfl | exact Or.inr rfl) pe_str)
        (pss_cons (ps_set (i := 3) sc_l_names.nd rfl (by first | exact Or.inl rfl | exact Or.inr rfl) (pe_op op_add pe_int (pe_callC C_l_take hr (by omega) rfl (pa_cons (pv 0) (pa_cons pe_int pa_nil)))))
        (pss_cons (ps_setLc (own := [("_law_turn", 9)]) (i := 4) rfl sc_l_names.nd rfl rfl (sw_true rfl rfl rfl (by decide +kernel)) (pi_range1 rfl T.b_range (pa_cons (pv 3) pa_nil)) (blkOk_by (by kernel_rfl)) (fun _ _ _ _ _ => (pg_name (i := 9) sc_l_names.nd rfl (by first | exact Or.inl rfl | exact Or.inr rfl))) (fun _ _ _ _ _ => pts_nil) (fun _ _ _ _ _ => (pe_callC C_l_of hr (by omega) rfl (pa_cons (pv 0) (pa_cons (pv 2) pa_nil)))))
        (pss_cons (ps_par3 (i := 5) (j := 6) (l := 7) (by rfl) sc_l_names.nd rfl rfl rfl (by decide) (by decide) (by decide) rfl rfl rfl (pa_cons (pe_callC C_l_take hr (by omega) rfl (pa_cons (pv 0) (pa_cons pe_int pa_nil))) (pa_cons (pe_callC C_l_take hr (by omega) rfl (pa_cons (pv 0) (pa_cons (pv 3) pa_nil))) (pa_cons (pe_lst pa_nil) pa_nil))) (by rfl))
        (pss_cons (ps_for PassesOwn.never rfl (k_pi_sq (K := K) rfl (pe_callC C_l_pick hr (by omega) rfl (pa_cons (pv 0) (pa_cons (pv 2) (pa_cons (pv 1) pa_nil))))) (pg_name (i := 8) sc_l_names.nd rfl (by first | exact Or.inl rfl | exact Or.inr rfl)) (pss_one (ps_if (pt_cmpR (op_eq) (pv 5) pe_int (nomark _)) (pss_one (ps_expr (k_bm (K := K) rfl PySem.F.plainAttrs_list PySem.F.slot_list_append PySem.F.type_list_append mt_append (pv 7) (pa_cons (pv 8) pa_nil)))) (pss_one (ps_if (pt_cmpR op_lt (pv 5) pe_int (nomark _)) (pss_one (ps_expr (k_bm (K := K) rfl PySem.F.plainAttrs_list PySem.F.slot_list_append PySem.F.type_list_append mt_append (pv 7) (pa_cons (k_join (K := K) rfl pe_str (pe_op (k_cat (K := K) rfl) (pe_op (k_cat (K := K) rfl) (pe_slice (k_slL (K := K) rfl) (pv 4) po_none (po_some (pv 6))) (pe_lst (pa_cons (pv 8) pa_nil))) (pe_slice (k_slL (K := K) rfl) (pv 4) (po_some (pe_op op_add (pv 6) pe_int)) po_none))) pa_nil)))) (pss_one (ps_expr (k_bm (K := K) rfl PySem.F.plainAttrs_list PySem.F.slot_list_append PySem.F.type_list_append mt_append (pv 7) (pa_cons (pe_op op_add_str (pv 8) (k_join (K := K) rfl pe_str (pe_lc (own := [("_law_turn", 9)]) rfl sc_l_names.nd (pi_range1 rfl T.b_range (pa_cons (pe_callC C_l_take hr (by omega) rfl (pa_cons (pv 0) (pa_cons pe_int pa_nil))) pa_nil)) (blkOk_by (by kernel_rfl)) (fun _ _ _ _ _ => (pg_name (i := 9) sc_l_names.nd rfl (by first | exact Or.inl rfl | exact Or.inr rfl))) (fun _ _ _ _ _ => pts_nil) (fun _ _ _ _ _ => (pe_callC C_l_of hr (by omega) rfl (pa_cons (pv 0) (pa_cons (pv 2) pa_nil))))))) pa_nil)))))))))
        (pss_one (ps_ret (pv 7)))))))), ?_⟩
  refine q_asg (c := c0) (K := K) (G := G) (φ := is (.str LT)) ev_str hs trivial fun v2 d2 G1 H1 g1 _ dv2 e => ?_
  subst e
  have hv2 := dp_str dv2
  subst hv2
  have g1 : Grow B0 G H G1 H1 := g1
  have gw1 : Grow (fun a => a = b) G H G1 H1 := Grow.wide g1
  have n1 := Grow.boxN gw1 h0 hb
  have bx1 := hb.same fun o ho => g1.same _ _ ho
  refine q_asgN (K := K) (b := b) (n := 0 + 1) (N := N) (G := G1) (φ := fun d => ∃ L : Nat, d = .int (L : Int) ∧ 1 ≤ L ∧ L ≤ 8) (evN_op (EvN.of ev_int) (evN_call (n := 1) (E := E0) 8 (j := 0) rfl (ea_cons (ev_int (i := ((8 : Nat) : Int))) ea_nil) ⟨by decide, by decide⟩) fun G1 H1 x y d e s1 h1 h2 p1 p2 Q q => ?_) (by omega) g1.s n1 bx1 fun v3 d3 G2 H2 g2 n2 bx2 dv3 ⟨L, e3, hL1, hL8⟩ => ?_
  · subst p1
    obtain ⟨i, rfl, hi⟩ := p2
    exact ⟨1, (i : Int), dp_int h1, dp_int h2, q _ (.int (1 + (i : Int))) (.int _) ⟨1 + i, by rw [Int.natCast_add]; rfl, by omega, by omega⟩⟩
  subst e3
  have hv3 := dp_int dv3
  subst hv3
  have gg2 := gw1.trans g2
  refine q_asgN (K := K) (b := b) (n := 0 + 1 * L) (N := N + 1) (G := G2) (φ := fun d => ∃ cs : List Nat, d = .list (cs.map chO) ∧ cs.length = L) (EvN.imp (evN_map (n := 0) (k := 1) (L := L) (j := 9) (vs := [9]) (fun i : Nat => PyData.int (i : Int)) (fun xs => xs.length = L) (fun _ d => ∃ c, d = chO c) (rangeN0 (ev_var rfl (.int _)) (by omega)) (by omega) (fun _ => rfl)
    fun x G3 v s3 dv => EvN.imp (evN_call (n := 1) (E := E0) LT (j := 0) rfl (ea_cons (ev_var (i := 2) rfl (.str _)) ea_nil) ⟨by show LT.length ≠ 0; omega, by show LT.length ≤ 100000; omega⟩) fun d ⟨c, _, e⟩ => ⟨c, e⟩) fun d ⟨xs, ds, hxl, _, e, h2, h3⟩ => ?_) (by omega) g2.s n2 (bx2.up (by omega)) fun v4 d4 G3 H3 g3 n3 bx3 dv4 ⟨cs, e4, hcs⟩ => ?_
  · subst e
    obtain ⟨cs, rfl⟩ := pre_map (f := chO) (l := ds) fun d hd => by
      obtain ⟨_, _, q⟩ := h3 d hd
      exact q
    exact ⟨cs, rfl, by rw [List.length_map] at h2; omega⟩
  subst e4
  have gg3 := gg2.trans g3
  -- sort, spot, found
  refine evN_call (K := K) (b := b) (n := 1) (E := E0) (σ := [some (.ref b), some v1, some (.str LT), some (.int (L : Int)), some v4, none, none, none, none, none]) 4 (j := 0) rfl (ea_cons (ev_int (i := ((4 : Nat) : Int))) ea_nil) ⟨by decide, by decide⟩ (N + 9) G3 H3 (by omega) (Same.refl G3) g3.s n3 (bx3.up (by omega)) _ fun v5 d5 G4 H4 g4 n4 bx4 dv5 ⟨so, e5, hso⟩ => ?_
  subst e5
  have hv5 := dp_int dv5
  subst hv5
  refine evN_call (K := K) (b := b) (n := 1) (E := E0) (σ := [some (.ref b), some v1, some (.str LT), some (.int (L : Int)), some v4, none, none, none, none, none]) L (j := 0) rfl (ea_cons (ev_var (i := 3) rfl (.int _)) ea_nil) ⟨by omega, by omega⟩ (N + 10) G4 H4 (by omega) (Same.refl G4) g4.s n4 bx4 _ fun v6 d6 G5 H5 g5 n5 bx5 dv6 ⟨sp, e6, hsp⟩ => ?_
  subst e6
  have hv6 := dp_int dv6
  subst hv6
  refine evL_lst (c := c0) (K := K) (σ := [some (.ref b), some v1, some (.str LT), some (.int (L : Int)), some v4, none, none, none, none, none]) (ds := []) ex_nil (by simp) G5 H5 (Same.refl G5) g5.s trivial _ fun f G6 H6 hf g6 _ m6 => ?_
  have g6 : Grow B0 G5 H5 G6 H6 := g6
  have gw6 : Grow (fun a => a = b) G5 H5 G6 H6 := Grow.wide g6
  have gg5 := (gg3.trans g4).trans g5
  have gg6 := gg5.trans gw6
  have n6 := Grow.boxN gw6 n5 bx5
  have bx6 : BoxAt b (N + 11) H6 := bx5.same fun o ho => g6.same _ _ ho
  have hf0 : H f = none := by
    cases e : H f with
    | none => rfl
    | some u => exact absurd hf (gg5.t f (by rw [e]; exact fun z => nomatch z))
  have nfb : f ≠ b := fun e => bx5.ne (by rw [← e]; exact hf)
  have dv4' := dp_mono ((g4.g.trans g5.g).trans g6.g) _ _ dv4
  refine ⟨.int (so : Int), .int (sp : Int), .ref f, rfl, ?_⟩
  refine q_forN (K := K) (b := b) (n := 3) (N := N + 11) (G := G6) (Φ := fun ds => ∃ qs : List Nat, ds = qs.map chO ∧ qs.length = n ∧ qs.Nodup) (EvN.imp (evN_call (n := 3) (E := E0) (LT, n) (j := 0) rfl (ea_cons (ev_var (i := 2) rfl (.str _)) (ea_cons (ev_var (i := 1) rfl (dp_mono gg6.g _ _ d1)) ea_nil)) ⟨LT_nd, by show LT.cps.toList.length ≤ 1000; omega, hn3, by show n ≤ LT.cps.toList.length; omega⟩) fun d ⟨qs, e, h1, h2⟩ => ⟨_, e, qs, rfl, h1, h2⟩) (by omega) g6.s n6 bx6 fun vq ds G7 H7 g7 n7 bx7 dvq ⟨qs, eq, hql, hqn⟩ => ?_
  subst eq
  have gg7 := gg6.trans g7
  have m7 := m6.grow nfb g7
  have dv47 := dp_mono g7.g _ _ dv4'
  let pre : List Nat := if so = 1 ∨ so = 2 then cs.take sp else []
  refine q_forI (c := c0) (K := K) (G := G7) chO qs (es_L (ev_C dvq)) g7.s trivial
    (fun i σ' G' H' => Grow (fun a => a = b) G H G' H' ∧ G' b = none ∧ BoxAt b (N + 14 + 8 * i) H' ∧ Same G7 G' ∧ ∃ (xs : List Str) (y8 y9 : Option V), ML K f G' H' (xs.map .str) ∧ xs.length = i ∧ xs.Nodup ∧ (∀ x ∈ xs, Signed pre (qs.take i) x) ∧ σ' = [some (.ref b), some v1, some (.str LT), some (.int (L : Int)), some v4, some (.int (so : Int)), some (.int (sp : Int)), some (.ref f), y8, y9])
    (fun G8 H8 g8 _ => ?_) (fun i σ' G' H' q => q.1.s) ?_ ?_
  · have g8 : Grow B0 G7 H7 G8 H8 := g8
    have gw8 : Grow (fun a => a = b) G7 H7 G8 H8 := Grow.wide g8
    exact ⟨gg7.trans gw8, Grow.boxN gw8 n7 bx7, (bx7.same fun o ho => g8.same _ _ ho).up (by omega), g8.g, [], none, none, m7.grow0 g8, rfl, List.nodup_nil, (fun _ z => nomatch z), rfl⟩
  · rintro G0 hG i q σ' G' H' hq s0 ⟨g, nb, bx, s7, xs, y8, y9, mf, hxl, hxn, hsg, rfl⟩ v G8 H8 g8 dv
    refine ⟨_, tg_name, ?_⟩
    have hi : i < n := by
      have := (List.getElem?_eq_some_iff.mp hq).1
      omega
    have hvq := dp_str dv
    subst hvq
    have gw8 : Grow (fun a => a = b) G' H' G8 H8 := Grow.wide g8
    have nb8 := Grow.boxN gw8 nb bx
    have bx8 := bx.same fun o ho => g8.same _ _ ho
    have mf8 := mf.grow0 g8
    have s78 := s7.trans g8.g
    have dv48 := dp_mono s78 _ _ dv47
    have hqnew : q ∉ qs.take i := by
      intro hm
      have h2 := hqn
      rw [← List.take_append_drop i qs, List.drop_eq_getElem_cons (List.getElem?_eq_some_iff.mp hq).1, List.nodup_append] at h2
      refine h2.2.2 q hm q ?_ rfl
      rw [(List.getElem?_eq_some_iff.mp hq).2]
      exact List.mem_cons_self
    -- what stands behind a new name
    have fin : ∀ (D : Ends), (∀ σ'' H'', (∃ G'', Same G0 G'' ∧ (Grow (fun a => a = b) G H G'' H'' ∧ G'' b = none ∧ BoxAt b (N + 14 + 8 * (i + 1)) H'' ∧ Same G7 G'' ∧ ∃ (xs : List Str) (y8 y9 : Option V), ML K f G'' H'' (xs.map .str) ∧ xs.length = i + 1 ∧ xs.Nodup ∧ (∀ x ∈ xs, Signed pre (qs.take (i + 1)) x) ∧ σ'' = [some (.ref b), some v1, some (.str LT), some (.int (L : Int)), some v4, some (.int (so : Int)), some (.int (sp : Int)), some (.ref f), y8, y9])) → D.nx σ'' H'') →
        ∀ (te : TE) (G9 : Hp) (H9 : Hp), Grow (fun a => a = b) G8 H8 G9 H9 → G9 b = none → BoxAt b (N + 14 + 8 * i) H9 → ML K f G9 H9 (xs.map .str) → EvN K b 8 te [some (.ref b), some v1, some (.str LT), some (.int (L : Int)), some v4, some (.int (so : Int)), some (.int (sp : Int)), some (.ref f), some (.str (chS q)), y9] G9 (fun d => ∃ x : Str, d = .str x ∧ ∃ r, x.cps.toList = pre ++ q :: r) →
        tDrop (tBM K "list" rAppend (tVar 7) (tCons te tNil)) D [some (.ref b), some v1, some (.str LT), some (.int (L : Int)), some v4, some (.int (so : Int)), some (.int (sp : Int)), some (.ref f), some (.str (chS q)), y9] H9 := by
      intro D hD te G9 H9 g9 n9 bx9 m9 hte
      refine st_appN rfl m9 nfb hte (N := N + 14 + 8 * i) (by omega) g9.s n9 bx9 (by rw [List.length_map]; omega) fun d G10 H10 gr n10 bx10 ⟨x, e, r, hxr⟩ m10 s10 t10 => ?_
      subst e
      refine hD _ _ ⟨G10, (s0.trans g8.g).trans (g9.g.trans s10), gr G H ((g.trans gw8).trans g9) hf0, n10, bx10.up (by omega), s78.trans (g9.g.trans s10), xs ++ [x], some (.str (chS q)), y9, by rw [List.map_append]; exact m10, by rw [List.length_append, hxl]; rfl, ?_, ?_, rfl⟩
      · rw [List.nodup_append]
        refine ⟨hxn, by simp, fun a ha a' ha' e => ?_⟩
        rw [List.mem_singleton] at ha'
        subst ha'
        subst e
        obtain ⟨c, hc, r', hr'⟩ := hsg a ha
        rw [hxr] at hr'
        have := List.append_cancel_left hr'
        rw [(List.cons.inj this).1] at hqnew
        exact hqnew hc
      · intro x' hx'
        rw [take_succ' hq]
        rcases List.mem_append.mp hx' with hx' | hx'
        · obtain ⟨c, hc, r', hr'⟩ := hsg x' hx'
          exact ⟨c, List.mem_append_left _ hc, r', hr'⟩
        · rw [List.mem_singleton] at hx'
          subst hx'
          exact ⟨q, List.mem_append_right _ List.mem_cons_self, r, hxr⟩
    refine st_if (c := c0) (G := G8) (φ := is (decide (so = 0))) (et_test (K := K) ((ev_eqS (x := .int (so : Int)) (y := .int 0) (ev_var rfl (.int _)) ev_int (fun G v h => dp_int h) (fun G v h => dp_int h) rfl).to ?_)) g8.s trivial fun bb G9 H9 g9 _ e => ?_
    · exact congrArg PyData.bool (decide_eq_decide.mpr ⟨fun e => by injection e with e; omega, fun e => by rw [e]; rfl⟩)
    have e : bb = decide (so = 0) := e
    have g9 : Grow B0 G8 H8 G9 H9 := g9
    have gw9 : Grow (fun a => a = b) G8 H8 G9 H9 := Grow.wide g9
    have n9 := Grow.boxN gw9 nb8 bx8
    have bx9 := bx8.same fun o ho => g9.same _ _ ho
    have m9 := mf8.grow0 g9
    by_cases h00 : so = 0
    · rw [decide_eq_true h00] at e
      subst e
      refine fin _ (fun σ'' H'' q => q) _ G9 H9 gw9 n9 bx9 m9 (EvN.up (EvN.imp (EvN.of (ev_var (i := 8) rfl (.str _))) fun d e => ⟨chS q, e, [], ?_⟩) (by omega))
      show [q] = pre ++ [q]
      have : pre = [] := if_neg (by omega)
      rw [this]
      rfl
    · rw [decide_eq_false h00] at e
      subst e
      refine st_if (c := c0) (G := G9) (φ := is (decide (so < 3))) (et_test (K := K) ((ev_I0 (ev_var rfl (.int _)) ev_int (fun _ => .bl _)).to ?_)) g9.s trivial fun bb G10 H10 g10 _ e => ?_
      · exact congrArg PyData.bool (decide_eq_decide.mpr (by omega))
      have e : bb = decide (so < 3) := e
      have g10 : Grow B0 G9 H9 G10 H10 := g10
      have gw10 : Grow (fun a => a = b) G9 H9 G10 H10 := Grow.wide g10
      have n10 := Grow.boxN gw10 n9 bx9
      have bx10 := bx9.same fun o ho => g10.same _ _ ho
      have m10 := m9.grow0 g10
      have dv410 := dp_mono (g9.g.trans g10.g) _ _ dv48
      by_cases h3 : so < 3
      · rw [decide_eq_true h3] at e
        subst e
        have hpre : pre = cs.take sp := if_pos (by omega)
        refine fin _ (fun σ'' H'' q => q) _ G10 H10 (gw9.trans gw10) n10 bx10 m10 (EvN.up (evN_join (EvN.imp (EvN.of (ev_catS (ds := ((cs.take sp) ++ [q]).map chO) (es := (cs.drop (sp + 1)).map chO) ((ev_catS (ds := (cs.take sp).map chO) (es := [chO q]) ((ev_slL (ev_var (i := 4) rfl dv410) eo_none (eo_some (K := K) (ev_var (i := 6) rfl (.int _)))).to ?_) (ev_lst1 (ev_var (i := 8) rfl (.str _))) ?_).to ?_) ((ev_slL (ev_var (i := 4) rfl dv410) (eo_some (K := K) (i := ((sp + 1 : Nat) : Int)) ((ev_I0 (ev_var (i := 6) rfl (.int _)) ev_int (fun _ => .int _)).to ?_)) eo_none).to ?_) ?_)) fun d e => ?_)) (by omega))
        · rw [cutD_map, cutD_to]
        · rw [List.length_map, List.length_take]
          simp only [List.length_singleton]
          omega
        · rw [List.map_append]
          rfl
        · rw [Int.natCast_add]
          rfl
        · rw [cutD_map, cutD_from]
        · rw [List.length_map, List.length_map, List.length_append, List.length_take, List.length_drop]
          simp only [List.length_singleton]
          omega
        · refine ⟨((cs.take sp ++ [q]) ++ cs.drop (sp + 1)).map chS, ?_, ?_, _, rfl, cs.drop (sp + 1), ?_⟩
          · rw [← map_chO, List.map_append]
            exact e
          · rw [sum_ones, List.length_append, List.length_append, List.length_take, List.length_drop]
            simp only [List.length_singleton]
            omega
          · rw [join_ones, hpre, List.append_assoc]
            rfl
      · rw [decide_eq_false h3] at e
        subst e
        have hpre : pre = [] := if_neg (by omega)
        refine fin _ (fun σ'' H'' q => q) _ G10 H10 (gw9.trans gw10) n10 bx10 m10 (EvN.up (evN_op (n := 0) (m := 1 + 1 * 7) (EvN.of (ev_var (i := 8) rfl (.str (chS q)))) (evN_join (χ := fun d => ∃ j : Str, d = .str j ∧ j.length ≤ 100) (EvN.imp (evN_map (n := 1) (k := 1) (L := 7) (j := 9) (vs := [9]) (fun i : Nat => PyData.int (i : Int)) (fun _ => True) (fun _ d => ∃ c, d = chO c) (rangeN (EvN.imp (evN_call (n := 1) (E := E0) 8 (j := 0) rfl (ea_cons (ev_int (i := ((8 : Nat) : Int))) ea_nil) ⟨by decide, by decide⟩) fun d ⟨i, e, h⟩ => ⟨i, e, by omega⟩) (by omega)) (by omega) (fun _ => rfl)
          fun x G3 v s3 dv => EvN.imp (evN_call (n := 1) (E := E0) LT (j := 0) rfl (ea_cons (ev_var (i := 2) rfl (.str _)) ea_nil) ⟨by show LT.length ≠ 0; omega, by show LT.length ≤ 100000; omega⟩) fun d ⟨c, _, e⟩ => ⟨c, e⟩) fun d ⟨xs, ds, _, hx7, e, h2, h3⟩ => ?_)) fun G1 H1 x y d e s1 h1 h2 p1 p2 Q qq => ?_) (by omega))
        · subst e
          obtain ⟨rs, rfl⟩ := pre_map (f := chO) (l := ds) fun d hd => by
            obtain ⟨_, _, q⟩ := h3 d hd
            exact q
          rw [List.length_map] at h2
          refine ⟨rs.map chS, by rw [← map_chO], by rw [sum_ones]; omega, _, rfl, ?_⟩
          show (Txt.join ⟨#[]⟩ (rs.map chS)).cps.size ≤ 100
          rw [← Array.length_toList, join_ones]
          omega
        · subst p1
          obtain ⟨j, rfl, hj⟩ := p2
          refine ⟨chS q, j, dp_str h1, dp_str h2, Nat.le_trans (show 1 + j.length ≤ 200 by omega) (by decide), qq _ _ (.str _) ⟨chS q ++ j, rfl, j.cps.toList, ?_⟩⟩
          rw [app_cps, hpre]
          rfl
  · rintro σ' G' H' sg ⟨g, nb, bx, s7, xs, y8, y9, mf, hxl, hxn, hsg, rfl⟩
    rw [hql] at hxl bx
    obtain ⟨G8, g8, k8, s8, n8⟩ := mf.know g hf0 hs
    refine st_ret (c := c0) (K := K) (G := G8) (φ := is (.list (xs.map .str))) (ev_var rfl k8.dp) g8.s trivial fun v d G9 H9 g9 _ dv e => ?_
    subst e
    have g9 : Grow B0 G8 H' G9 H9 := g9
    have gw9 : Grow (fun a => a = b) G8 H' G9 H9 := Grow.wide g9
    have nb8 := n8 b (Ne.symm nfb) nb
    exact k v _ G9 H9 (g8.trans gw9) (Grow.boxN gw9 nb8 bx) ((bx.same fun o ho => g9.same _ _ ho).up (by omega)) dv ⟨xs, rfl, hxl, hxn⟩
end
end Mk
/-! ## MkW18 -/
set_option autoImplicit true
set_option Elab.async false
set_option linter.all false
set_option maxRecDepth 100000
set_option maxHeartbeats 4000000
namespace Mk
open PySem PySem.Spec PyProof.Rows L2 MkM
def tOrL (K : PySem.W.Frag) (ta tb : TE) : TE := fun σ H Q => ta σ H fun x H1 => ∃ k, TruV K x H1 k ∧ if k = true then Q x H1 else tb σ H1 Q
section
variable {X : Cx} {K : PySem.W.Frag} {a e2 : Expr} {rest : List Expr} {pos : Pos} {ta tb : TE}
theorem k_orL (hK : X.K = K) (ha : PE X a ta) (hb : PE X (.BoolOp .Or (e2 :: rest) pos) tb) : PE X (.BoolOp .Or (a :: e2 :: rest) pos) (tOrL K ta tb) := by
  subst hK
  refine ⟨fun pins s σ H Q I h => ?_⟩
  refine BoolOp_or (thn (ha.run pins s σ H _ I h) fun v s1 ⟨x, H1, I1, r1, k, ht, q1⟩ => ?_)
  refine thn (tru_ok pins s1 σ H1 x v (fun b H2 => if b = true then Q x H2 else tb σ H2 Q) I1 r1 ⟨k, ht, q1⟩) fun b s2 ⟨H2, I2, q2⟩ => ?_
  cases b with
  | true => exact ⟨x, H2, I2, r1, q2⟩
  | false => exact hb.run pins s2 σ H2 Q I2 q2
end
section
variable {c : Ctx} {K : PySem.W.Frag} {σ : St} {G H : Hp} {te ta tb tl ti : TE} {ds es : List PyData} {D : Ends} {tz : TS} {B : Addr → Prop}
theorem _root_.Mk.Grow.thenB {p : Addr} {G1 H1 G2 H2 : Hp} (x : Grow B G H G1 H1) (y : Grow (fun a => B a ∨ a = p) G1 H1 G2 H2) (hp : H p = none) : Grow B G H G2 H2 :=
  ⟨x.g.trans y.g, fun a o nb e => y.h a o (fun q => q.elim nb fun q => by rw [q, hp] at e; cases e) (x.h a o nb e), y.s,
    fun a o h => (y.n a o h).elim (fun e => .inl (by
      cases eh : H a with
      | none => rfl
      | some u => exact absurd e (x.t a (by rw [eh]; exact fun z => nomatch z)))) (x.n a o), fun a h => y.t a (x.t a h)⟩
/-- list(xs), a new list -/
theorem evL_list (h : Ev c K te σ G (is (.list ds))) : EvL c K (tCB (fun xs H Q => ∃ p ys, xs = [.ref p] ∧ (SqL K H p ys ∨ SqT K H p ys) ∧ ∀ l, H l = none → Q (.ref l) (upd H l (.lst ys))) (tCons te tNil)) σ G ds := fun G0 H a b j Q q => h G0 H a b j _ fun v d G1 H1 g1 j1 d1 e => by
  subst e
  obtain ⟨p, xs, rfl, h3, h4⟩ := dp_list d1
  refine ⟨p, xs, rfl, .inl (g1.s.seq h3), fun l hl => ?_⟩
  have h0 : H l = none := by
    cases e : H l with
    | none => rfl
    | some u => exact absurd hl (g1.t l (by rw [e]; exact fun z => nomatch z))
  have n1 : G1 l = none := g1.s.free hl
  exact q l G1 _ h0 (g1.trans ((Grow.refl g1.s).mut (.inl hl) n1)) (c.new j1 hl) ⟨n1, xs, upd_same, h4⟩
/-- xs or ys, both new lists -/
theorem evL_or (h1 : EvL c K ta σ G ds) (h2 : EvL c K tb σ G es) : EvL c K (tOrL K ta tb) σ G (if ds.isEmpty then es else ds) := fun G0 H a b j Q q => h1 G0 H a b j _ fun p G1 H1 hp g1 j1 m1 => by
  obtain ⟨n1, acc, e1, e2⟩ := m1.ex
  have hl := dpa_len e2
  refine ⟨!acc.isEmpty, .inl ⟨acc, .inl (.inl e1), rfl⟩, ?_⟩
  cases ds with
  | nil =>
    cases acc with
    | cons _ _ => exact absurd hl (by simp)
    | nil =>
      refine h2 G1 H1 (a.trans g1.g) g1.s j1 _ fun r G2 H2 hr g2 j2 m2 => ?_
      have h0 : H r = none := by
        cases e : H r with
        | none => rfl
        | some u => exact absurd hr (g1.t r (by rw [e]; exact fun z => nomatch z))
      exact q r G2 H2 h0 (g1.trans g2) j2 m2
  | cons d ds =>
    cases acc with
    | nil => exact absurd hl (by simp)
    | cons _ _ => exact q p G1 H1 hp g1 j1 m1
/-- xs[i] = e, the last -/
theorem st_setL {j k : Nat} {b : Addr} {u : PyData} {acc : List V} (hj : σ[j]? = some (some (.ref b))) (hx : H b = some (.lst acc)) (h : Ev (cK c b (.lst acc)) K te σ G (is u)) (hi : ∀ G1, Same G G1 → Ev (cK c b (.lst acc)) K ti σ G1 (is (.int (k : Int)))) (hk : k < acc.length) (s : Same G H) (h0 : G b = none) (jc : c.J H) (nP : ¬ c.P b)
    (kk : ∀ v G1 H1, Grow (fun a => c.B a ∨ a = b) G H G1 H1 → c.J H1 → G1 b = none → Dp K G1 v u → H1 b = some (.lst (acc.set k v)) → D.nx σ H1) : tAsg te (gSub (tVar j) ti rSetL) D σ H :=
  h G H (Same.refl G) s ⟨jc, hx⟩ _ fun v d G1 H1 g1 j1 d1 p1 => ⟨.ref b, hj, hi G1 g1.g G1 H1 (Same.refl G1) g1.s j1 _ fun v2 d2 G2 H2 g2 j2 d2' p2 => by
    subst p1 p2
    have gg : Grow c.B G H G2 H2 := (show Grow c.B G H G1 H1 from g1).trans g2
    have n2 : G2 b = none := gg.none1 (by rw [hx]; exact fun z => nomatch z) h0
    have gw : Grow (fun a => c.B a ∨ a = b) G H G2 H2 := ⟨gg.g, fun a o nb e => gg.h a o (fun q => nb (.inl q)) e, gg.s, gg.n, gg.t⟩
    refine ⟨b, acc, (k : Int), k, rfl, dp_int d2', j2.2, ?_, kk v G2 _ (gw.mut (.inr (.inr rfl)) n2) (c.mut j2.1 nP) n2 (dp_mono g2.g _ _ d1) upd_same⟩
    unfold L2.ixN
    rw [if_pos (by omega), if_pos (by omega), Int.toNat_natCast]⟩
def enumD (ds : List PyData) : List PyData := (rangeD ds.length).zip ds |>.map fun p => .tuple [p.1, p.2]
theorem enum_get {i : Nat} {d : PyData} (h : (enumD ds)[i]? = some d) : ∃ e, ds[i]? = some e ∧ d = .tuple [.int (i : Int), e] := by
  unfold enumD at h
  rw [List.getElem?_map] at h
  cases q : ((rangeD ds.length).zip ds)[i]? with
  | none => rw [q] at h; cases h
  | some p =>
    rw [q] at h
    rw [List.getElem?_zip_eq_some] at q
    have h1 := q.1
    unfold rangeD at h1
    rw [List.getElem?_map] at h1
    have hi : i < ds.length := (List.getElem?_eq_some_iff.mp q.2).1
    rw [List.getElem?_range hi] at h1
    have e1 : PyData.int (i : Int) = p.1 := Option.some.inj h1
    exact ⟨p.2, q.2, by rw [e1]; exact (Option.some.inj h).symm⟩
theorem enum_len : (enumD ds).length = ds.length := by
  unfold enumD rangeD
  rw [List.length_map, List.length_zip, List.length_map, List.length_range, Nat.min_self]
theorem src_enum {a : Addr} {xs : List V} (h1 : SqL K G a xs) (hd : DpAll K G xs ds) : Src K (Ite K a) G (enumD ds) where
  go := fun i H s hi => by
    rw [enum_len] at hi
    obtain ⟨v, hv, _⟩ := dpa_get hd (List.getElem?_eq_getElem hi)
    exact ⟨xs, v, s.seq h1, hv⟩
  stop := fun i H s hi => ⟨xs, s.seq h1, by rw [enum_len] at hi; rw [dpa_len hd]; exact hi⟩
  yld := fun i H x H' G0 d g s hi y => by
    obtain ⟨e, e1, rfl⟩ := enum_get hi
    obtain ⟨T, u, rfl, hT, rfl, y1⟩ := y
    obtain ⟨v, hv, p1⟩ := dpa_get hd e1
    have q1 : u = v := Option.some.inj ((y1 xs ((g.trans s).seq h1)).symm.trans hv)
    subst q1
    have gn := s.free hT
    exact ⟨_, Grow.new s hT, .tup (.inl (.inl upd_same)) (.cons (.int _) (.cons (dp_mono (g.trans (same_new gn)) _ _ p1) .nil))⟩
theorem es_enum {t : TA} (h : EA c K t σ G (dats [.list ds])) : EvS c K (iEnum K t) σ G (is (enumD ds)) := fun G0 H a b j R r => h G0 H a b j _ fun vs G1 H1 g1 j1 p1 => by
  obtain ⟨v1, rfl, d1⟩ := dpa_one (agOk_dats p1)
  obtain ⟨p, xs, rfl, h3, h4⟩ := dp_list d1
  exact ⟨p, xs, rfl, g1.s.seq h3, r _ _ G1 H1 g1 j1 (src_enum h3 h4) rfl⟩
theorem enum_ints (is : List Int) : enumD (is.map .int) = ((List.range is.length).zip is).map fun p => .tuple [.int (p.1 : Int), .int p.2] := by
  refine List.ext_getElem? fun i => ?_
  cases q : (enumD (is.map .int))[i]? with
  | none =>
    rw [List.getElem?_eq_none_iff, enum_len, List.length_map] at q
    rw [List.getElem?_eq_none_iff.mpr]
    rw [List.length_map, List.length_zip, List.length_range]
    omega
  | some d =>
    obtain ⟨e, e1, rfl⟩ := enum_get q
    rw [List.getElem?_map] at e1
    cases q2 : is[i]? with
    | none => rw [q2] at e1; cases e1
    | some x =>
      rw [q2] at e1
      have e1 : PyData.int x = e := Option.some.inj e1
      subst e1
      have hi := (List.getElem?_eq_some_iff.mp q2).1
      rw [List.getElem?_map, (List.getElem?_zip_eq_some (z := (i, x))).mpr ⟨List.getElem?_range hi, q2⟩]
      rfl
theorem dpa_ints : ∀ {ys : List Int} {vs : List V}, DpAll K G vs (ys.map .int) → vs = ys.map V.int
  | [], _, h => by cases h; rfl
  | y :: ys, _, h => by
    cases h with
    | cons a t => rw [dp_int a, dpa_ints t]; rfl
theorem ints_dpa : ∀ {ys : List Int}, DpAll K G (ys.map V.int) (ys.map .int)
  | [] => .nil
  | y :: ys => .cons (.int y) ints_dpa
end
section
variable {P : Program} {w : World} {K : PySem.W.Frag} {mg : Str → Option Value} {base : Heap}
/-! ### _law_cells -/
-- slots: 0 _law_script, 1 _law_top_so, 2 _law_cells_so, 3 _law_k, 4 _law_cell, 5 _law_at_so
abbrev N_l_cells : List Str := ["_law_script", "_law_top_so", "_law_cells_so", "_law_k", "_law_cell", "_law_at_so"]
theorem sc_l_cells : FnScope N_l_cells ["_law_script", "_law_top_so"] (defScope st_l_cells) := ⟨rfl, rfl, rfl, by decide +kernel, rfl, by decide +kernel, by decide +kernel⟩
theorem bd_l_cells : BindOk "_law_cells" "_law_cells" st_l_cells ["_law_script", "_law_top_so"] := fun _ _ _ _ _ _ us hl => match us, hl with | [_, _], _ => rfl
def spCells (K : PySem.W.Frag) : Sp := fun vs H Q _ => ∃ (v1 v2 : V) (xs : List Int) (G : Hp), vs = [v1, v2] ∧ Same G H ∧ Dp K G v1 (.list (xs.map .int)) ∧ Dp K G v2 (.int 2) ∧ xs.length ≤ 1000 ∧
  ∀ v (ys : List Int) G1 H1, Grow B0 G H G1 H1 → Dp K G1 v (.list (ys.map .int)) → ys.length ≤ 2 → Q v H1
theorem spCells_len : ∀ vs H Q E, spCells K vs H Q E → vs.length = 2 := by
  rintro vs H Q E ⟨v1, v2, xs, G, rfl, _⟩
  rfl
theorem ok_l_cells (T : Txt K mg) : Callee P w K mg base 1 "_law_cells" ["_law_script", "_law_top_so"] (spCells K) := by
  refine callee_of T.f_l_cells T.g_l_cells sc_l_cells bd_l_cells spCells_len fun cdv A outer s H vs Q E hr hh => ?_
  obtain ⟨v1, v2, xs, G, rfl, hs, d1, d2, hx, k⟩ := hh
  have hv2 := dp_int d2
  subst hv2
  refine ⟨_, (pss_cons (ps_set (i := 2) sc_l_cells.nd rfl (by first | exact Or.inl rfl | exact Or.inr rfl) (k_orL (K := K) rfl (pe_callTy (T := "list") (k_list (K := K) rfl) (by rfl) T.b_list (by decide +kernel) (pa_cons (pe_slice (k_slL (K := K) rfl) (pv 0) po_none (po_some (pv 1))) pa_nil)) (pe_one (pe_lst (pa_cons pe_int pa_nil)))))
        (pss_cons (ps_for PassesOwn.never rfl (k_enum (K := K) rfl rfl T.b_enumerate (pa_cons (pe_slice (k_slL (K := K) rfl) (pv 0) (po_some (pv 1)) (po_some pe_int)) pa_nil)) (k_pg_tup (K := K) (n := 2) rfl rfl (pgs_cons (pg_name (i := 3) sc_l_cells.nd rfl (by first | exact Or.inl rfl | exact Or.inr rfl)) (pgs_cons (pg_name (i := 4) sc_l_cells.nd rfl (by first | exact Or.inl rfl | exact Or.inr rfl)) pgs_nil))) (pss_cons (ps_set (i := 5) sc_l_cells.nd rfl (by first | exact Or.inl rfl | exact Or.inr rfl) (pe_op op_modN (pe_callTy (T := "int") call_int1 (by rfl) T.b_int (by decide +kernel) (pa_cons (pv 3) pa_nil)) (pv 1)))
        (pss_one (ps_asg (pe_op op_add (pe_ix (k_ixL (K := K) rfl) (pv 2) (pv 5) (fun _ _ => rfl)) (pe_op op_mul (pv 4) (pe_op op_add (pv 3) pe_int))) (pg_sub (pv 2) (pv 5) set_list)))))
        (pss_one (ps_ret (pv 2))))), ?_⟩
  refine evL_or (c := c0) (K := K) (σ := start N_l_cells [v1, .int 2]) (G := G) (ds := (xs.take 2).map .int) (es := [.int 0]) (fun G0 H a b j Q q => evL_list ((ev_slL (ev_var rfl d1) eo_none (eo_some (K := K) (i := ((2 : Nat) : Int)) (ev_var rfl (.int _)))).to ?_) G0 H a b j Q q) (evL_lst (ex_cons ev_int ex_nil) (by simp)) G H (Same.refl G) hs trivial _ fun p G1 H1 hp g1 _ m1 => ?_
  · rw [cutD_map, cutD_to]
  have g1 : Grow B0 G H G1 H1 := g1
  have hne : (if ((xs.take 2).map PyData.int).isEmpty then [PyData.int 0] else (xs.take 2).map PyData.int) = (if (xs.take 2).isEmpty then [0] else xs.take 2).map PyData.int := by
    cases xs.take 2 <;> rfl
  rw [hne] at m1
  have hlen : (if (xs.take 2).isEmpty then [0] else xs.take 2).length ≤ 2 := by
    split
    · simp
    · rw [List.length_take]; omega
  have hbig : 2 < xs.length → (if (xs.take 2).isEmpty then [0] else xs.take 2).length = 2 := fun h => by
    match xs, h with
    | a :: b :: c :: r, _ => rfl
  generalize (if (xs.take 2).isEmpty then [0] else xs.take 2) = ys0 at m1 hlen hbig
  have d11 := dp_mono g1.g _ _ d1
  let zs := (xs.drop 2).take 61
  have hzs : zs.length ≤ 61 := by show ((xs.drop 2).take 61).length ≤ 61; rw [List.length_take]; omega
  have hzb : 0 < zs.length → 2 < xs.length := fun h => by
    have h : 0 < ((xs.drop 2).take 61).length := h
    rw [List.length_take, List.length_drop] at h
    omega
  refine q_forI (c := c0) (K := K) (G := G1) (fun q : Nat × Int => PyData.tuple [.int (q.1 : Int), .int q.2]) ((List.range zs.length).zip zs) ((es_enum (ea_cons ((ev_slL (ev_var rfl d11) (eo_some (K := K) (i := ((2 : Nat) : Int)) (ev_var rfl (.int _))) (eo_some (K := K) (i := ((63 : Nat) : Int)) ev_int)).to ?_) ea_nil)).imp0 (enum_ints zs)) g1.s trivial
    (fun i σ' G' H' => Grow B0 G H G' H' ∧ ∃ (ys : List Int) (y3 y4 y5 : Option V), ML K p G' H' (ys.map .int) ∧ ys.length = ys0.length ∧ σ' = [some v1, some (.int 2), some (.ref p), y3, y4, y5])
    (fun G2 H2 g2 _ => ?_) (fun i σ' G' H' q => q.1.s) ?_ ?_
  · rw [cutD_map, cutD_mid]
  · have g2 : Grow B0 G1 H1 G2 H2 := g2
    exact ⟨g1.trans g2, ys0, none, none, none, m1.grow0 g2, rfl, rfl⟩
  · rintro G0 hG i ⟨kk, x⟩ σ' G' H' hq s0 ⟨g, ys, y3, y4, y5, m, hl, rfl⟩ v G2 H2 g2 dv
    rw [List.getElem?_zip_eq_some] at hq
    have hi : i < zs.length := (List.getElem?_eq_some_iff.mp hq.2).1
    have hk : kk = i := by
      have := hq.1
      rw [List.getElem?_range hi] at this
      exact (Option.some.inj this).symm
    subst hk
    have hy2 : ys.length = 2 := by rw [hl]; exact hbig (hzb (by omega))
    obtain ⟨u1, u2, a1, a2, tg⟩ := tg_pair (i := 3) (j := 4) (σ := [some v1, some (.int 2), some (.ref p), y3, y4, y5]) dv
    refine ⟨_, tg, ?_⟩
    have e1 := dp_int a1
    have e2 := dp_int a2
    subst e1 e2
    have m2 := m.grow0 g2
    have gg2 := g.trans g2
    refine q_asg (c := c0) (K := K) (G := G2) (φ := is (.int ((kk % 2 : Nat) : Int))) ((ev_I (ev_int1 (ev_var (i := 3) rfl (.int _))) (ev_var (i := 1) rfl (.int _)) (by decide) (fun _ => .int _)).to ?_) g2.s trivial fun v5 d5 G3 H3 g3 _ dv5 e5 => ?_
    · rw [Int.fmod_eq_emod_of_nonneg _ (by decide)]
      rfl
    subst e5
    have e5 := dp_int dv5
    subst e5
    have g3 : Grow B0 G2 H2 G3 H3 := g3
    have m3 := m2.grow0 g3
    obtain ⟨n3, acc, h3, d3⟩ := m3.ex
    have ea := dpa_ints d3
    subst ea
    have hm : kk % 2 < ys.length := by omega
    refine st_setL (c := c0) (k := kk % 2) (G := G3) (u := .int (ys[kk % 2] + x * ((kk : Int) + 2))) rfl h3 (ev_I0 (ev_ixM (c := cK c0 p (.lst (ys.map V.int))) (i := 2) (j := kk % 2) (d := .int ys[kk % 2]) rfl (fun H j => j.2) d3 (ev_var (i := 5) rfl (.int _)) ?_) (ev_I (ev_var (i := 4) rfl (.int _)) (ev_I0 (ev_var (i := 3) rfl (.int _)) ev_int (fun _ => .int _)) ?_ (fun _ => .int _)) (fun _ => .int _)) (fun G4 _ => ev_var (i := 5) rfl (.int _)) (by rw [List.length_map]; exact hm) g3.s n3 trivial (fun z => z) fun v6 G4 H4 g4 _ n4 dv6 h4 => ?_
    · rw [List.getElem?_map, List.getElem?_eq_getElem hm]
      rfl
    · refine .inr ⟨by omega, by omega⟩
    · have e6 := dp_int dv6
      subst e6
      refine ⟨G4, ?_, ?_⟩
      · exact (s0.trans g2.g).trans (g3.g.trans g4.g)
      · refine ⟨(gg2.trans g3).thenB g4 hp, ys.set (kk % 2) (ys[kk % 2] + x * ((kk : Int) + 2)), _, _, _, ⟨n4, _, h4, ?_⟩, by rw [List.length_set]; exact hl, rfl⟩
        rw [← List.map_set]
        exact ints_dpa
  · rintro σ' G' H' sg ⟨g, ys, y3, y4, y5, m, hl, rfl⟩
    obtain ⟨G2, g2, k2, s2, n2⟩ := m.know g hp hs
    refine st_ret (c := c0) (K := K) (G := G2) (φ := is (.list (ys.map .int))) (ev_var rfl k2.dp) g2.s trivial fun v d G3 H3 g3 _ dv e => ?_
    subst e
    exact k v ys G3 H3 (g2.trans g3) dv (by omega)
end
end Mk
/-! ## MkW19 -/
set_option autoImplicit true
set_option Elab.async false
set_option linter.all false
set_option maxRecDepth 100000
set_option maxHeartbeats 4000000
namespace Mk
open PySem PySem.Spec PyProof.Rows L2 MkM
section
variable {c : Ctx} {K : PySem.W.Frag} {σ : St} {G H : Hp} {te ta tb tl ti : TE} {ds es : List PyData} {D : Ends} {tz : TS} {b : Addr} {n : Nat}
theorem ev_abs {i : Int} (h : Ev c K te σ G (is (.int i))) : Ev c K (tCB (fun xs H Q => ∃ i, xs = [.int i] ∧ Q (.int (if i < 0 then -i else i)) H) (tCons te tNil)) σ G (is (.int (if i < 0 then -i else i))) :=
  ev_cb (ea_cons h ea_nil) fun G1 H1 vs s1 p1 Q q => by
    obtain ⟨v, d, rfl, h1, h2⟩ := agOk_one p1
    subst h2
    exact ⟨i, by rw [dp_int h1], q _ _ G1 H1 (Grow.refl s1) (.int _) rfl⟩
def deS : PyData → Str
  | .str x => x
  | _ => ⟨#[]⟩
theorem deS_map (ys : List Str) : (ys.map PyData.str).map deS = ys := by
  induction ys with
  | nil => rfl
  | cons y ys ih => rw [List.map_cons, List.map_cons, ih]; rfl
theorem strs_perm {cs : List PyData} {ys : List Str} (pm : cs.Perm (ys.map .str)) : ∃ zs : List Str, cs = zs.map .str ∧ zs.Perm ys := by
  obtain ⟨zs, rfl⟩ := pre_map (f := PyData.str) (l := cs) fun b hb => by
    obtain ⟨l, _, e⟩ := List.mem_map.mp (pm.mem_iff.mp hb)
    exact ⟨l, e.symm⟩
  refine ⟨zs, rfl, ?_⟩
  have := pm.map deS
  rwa [deS_map, deS_map] at this
/-- sorted(a list of texts) -/
theorem evN_sortedS {Φ : List Str → Prop} (hΦ : ∀ xs ys, xs.Perm ys → Φ ys → Φ xs) (h : EvN K b n te σ G (fun d => ∃ ys : List Str, d = .list (ys.map .str) ∧ ys.length ≤ 1000 ∧ Φ ys)) : EvN K b n (tCB (rSortedL K) (tCons te tNil)) σ G (fun d => ∃ ys : List Str, d = .list (ys.map .str) ∧ ys.length ≤ 1000 ∧ Φ ys) :=
  evN_cb h fun G1 H1 v d s1 d1 ⟨ys, e, hy, p⟩ Q q => by
    subst e
    obtain ⟨a, xs, rfl, h3, h4⟩ := dp_list d1
    refine ⟨G1, a, xs, ys.map .str, rfl, s1, h3, h4, ⟨fun d hd d' hd' => ?_, .inr fun d hd => ?_, by rw [List.length_map]; omega, fun d hd => ?_⟩, fun cs pm r zs hr dz => ?_⟩
    · obtain ⟨x, _, rfl⟩ := List.mem_map.mp hd
      obtain ⟨y, _, rfl⟩ := List.mem_map.mp hd'
      simp [PySem.W.alike]
    · obtain ⟨x, _, rfl⟩ := List.mem_map.mp hd
      exact ⟨(fun z => nomatch z), fun xs z => nomatch z⟩
    · obtain ⟨x, _, rfl⟩ := List.mem_map.mp hd
      simp [PyData.depth]
    · obtain ⟨ws, e, pw⟩ := strs_perm (ys := ys) ((List.mergeSort_perm cs _).trans pm)
      rw [e] at dz
      exact q _ _ _ _ (Grow.new s1 hr) (.lst (.inl (.inl upd_same)) (dpa_mono (same_new (s1.free hr)) _ _ dz)) ⟨ws, rfl, by rw [pw.length_eq]; exact hy, hΦ _ _ pw p⟩
/-- for over a drawn list, its items told -/
theorem srcN {α : Type} {enc : α → PyData} {Φ : List α → Prop} {L : Nat} (h : EvN K b n te σ G (fun d => ∃ xs : List α, d = .list (xs.map enc) ∧ xs.length ≤ L ∧ Φ xs)) : ∀ N G0 H, N + n ≤ LIM → Same G G0 → Same G0 H → G0 b = none → BoxAt b N H → ∀ Rr : It → Hp → Prop,
    (∀ J (xs : List α) G1 H1, Grow (fun a => a = b) G0 H G1 H1 → G1 b = none → BoxAt b (N + n) H1 → Src K J G1 (xs.map enc) → xs.length ≤ L → Φ xs → Rr J H1) → iSq K te σ H Rr := fun N G0 H hN s t h0 hb Rr r =>
  h N G0 H hN s t h0 hb _ fun v d G1 H1 g1 n1 b1 d1 ⟨xs, e, hl, p⟩ => by
    subst e
    obtain ⟨a, vs, rfl, h3, h4⟩ := dp_list d1
    exact ⟨a, rfl, .inl ⟨⟨vs, g1.s.seq h3⟩, r _ xs G1 H1 g1 n1 b1 (src_list h3 h4) hl p⟩⟩
end
theorem shortOf_len {names : List Str} : (shortOf names 1).length = 1 + names.length ∧ (shortOf names 2).length = 1 + names.length + names.length ^ 2 ∧ (shortOf names 3).length = 1 + names.length + names.length ^ 2 + names.length ^ 3 := by
  refine ⟨?_, ?_, ?_⟩ <;> simp [shortOf, List.length_append, lvN_len] <;> omega
section
variable {P : Program} {w : World} {K : PySem.W.Frag} {mg : Str → Option Value} {base : Heap}
/-! ### _law_box -/
-- slots: 0 _law_script, 1 _law_k, 2 _law_cell
abbrev N_l_box : List Str := ["_law_script", "_law_k", "_law_cell"]
theorem sc_l_box : FnScope N_l_box ["_law_script", "_law_k"] (defScope st_l_box) := ⟨rfl, rfl, rfl, by decide +kernel, rfl, by decide +kernel, by decide +kernel⟩
theorem bd_l_box : BindOk "_law_box" "_law_box" st_l_box ["_law_script", "_law_k"] := fun _ _ _ _ _ _ us hl => match us, hl with | [_, _], _ => rfl
def spBox (K : PySem.W.Frag) : Sp := fun vs H Q _ => ∃ (v1 v2 : V) (xs : List Int) (k : Nat) (G : Hp), vs = [v1, v2] ∧ Same G H ∧ Dp K G v1 (.list (xs.map .int)) ∧ Dp K G v2 (.int (k : Int)) ∧ k < xs.length ∧
  ∀ p G1 H1, Grow B0 G H G1 H1 → H p = none → G1 p = none → BoxAt p 0 H1 → Q (.ref p) H1
theorem spBox_len : ∀ vs H Q E, spBox K vs H Q E → vs.length = 2 := by
  rintro vs H Q E ⟨v1, v2, xs, k, G, rfl, _⟩
  rfl
theorem ok_l_box (T : Txt K mg) : Callee P w K mg base 1 "_law_box" ["_law_script", "_law_k"] (spBox K) := by
  refine callee_of T.f_l_box T.g_l_box sc_l_box bd_l_box spBox_len fun cdv A outer s H vs Q E hr hh => ?_
  obtain ⟨v1, v2, xs, kk, G, rfl, hs, d1, d2, hx, k⟩ := hh
  have hv2 := dp_int d2
  subst hv2
  refine ⟨_, (pss_cons (ps_set (i := 2) sc_l_box.nd rfl (by first | exact Or.inl rfl | exact Or.inr rfl) (pe_ifExp (pt_cmpR op_lt (pv 1) (pe_callB (id := "len") (k_len (K := K) rfl) (by rfl) T.b_len (by decide +kernel) (pa_cons (pv 0) pa_nil)) (nomark _)) (pe_ix (k_ixL (K := K) rfl) (pv 0) (pv 1) (fun _ _ => rfl)) pe_int))
        (pss_one (ps_ret (pe_lst (pa_cons (pe_op op_mul (pe_callB (id := "abs") call_abs (by rfl) T.b_abs (by decide +kernel) (pa_cons (pv 2) pa_nil)) (pe_callTy (T := "int") call_int1 (by rfl) T.b_int (by decide +kernel) (pa_cons (pe_cmpR op_ge (pe_callB (id := "abs") call_abs (by rfl) T.b_abs (by decide +kernel) (pa_cons (pv 2) pa_nil)) (pe_op op_pow pe_int pe_int) (nomark _)) pa_nil))) (pa_cons (pe_op op_add (pe_op op_add (pe_op op_modN (pe_callTy (T := "int") call_int1 (by rfl) T.b_int (by decide +kernel) (pa_cons (pv 2) pa_nil)) pe_int) (pe_op op_mul pe_int (pv 1))) pe_int) (pa_cons pe_int pa_nil))))))), ?_⟩
  refine q_asg (c := c0) (K := K) (G := G) (φ := is (.int xs[kk])) (ev_if (b := true) (et_test ((ev_I0 (ev_var (i := 1) rfl (.int _)) (ev_lenL (ev_var rfl d1)) (fun _ => .bl _)).to ?_)) (fun _ => ev_ixL (i := kk) (ev_var rfl d1) (ev_var (i := 1) rfl (.int _)) ?_) (fun z => nomatch z)) hs trivial fun v3 d3 G1 H1 g1 _ dv3 e => ?_
  · refine congrArg PyData.bool (decide_eq_true ?_)
    rw [List.length_map]
    omega
  · rw [List.getElem?_map, List.getElem?_eq_getElem hx]
    rfl
  subst e
  generalize xs[kk] = x at dv3
  have hv3 := dp_int dv3
  subst hv3
  have g1 : Grow B0 G H G1 H1 := g1
  refine evL_lst (c := c0) (K := K) (σ := [some v1, some (.int (kk : Int)), some (.int x)]) (G := G1) (ex_cons (ev_I (ev_abs (ev_var (i := 2) rfl (.int _))) (ev_intB (ev_I0 (ev_abs (ev_var (i := 2) rfl (.int _))) (ev_I (i := 10) (j := 18) ev_int ev_int (by unfold CPow; decide) (fun _ => .int _)) (fun _ => .bl _))) ?_ (fun _ => .int _))
    (ex_cons (ev_I0 (ev_I0 (ev_I (ev_int1 (ev_var (i := 2) rfl (.int _))) ev_int (by decide) (fun _ => .int _)) (ev_I (i := 39373) (j := (kk : Int)) ev_int (ev_var (i := 1) rfl (.int _)) (.inl ⟨by decide, by decide⟩) (fun _ => .int _)) (fun _ => .int _)) ev_int (fun _ => .int _)) (ex_cons (ev_int (i := 0)) ex_nil))) (by simp) G1 H1 (Same.refl G1) g1.s trivial _ fun p G2 H2 hp g2 _ m2 => ?_
  · refine .inr ?_
    have : ∀ qb : Bool, -(2 ^ 64 : Int) < (if qb = true then 1 else 0) ∧ (if qb = true then (1 : Int) else 0) < 2 ^ 64 := fun qb => by cases qb <;> decide
    exact this _
  have g2 : Grow B0 G1 H1 G2 H2 := g2
  obtain ⟨n2, acc, h2, dd⟩ := m2.ex
  have h0 : H p = none := by
    cases e : H p with
    | none => rfl
    | some u => exact absurd hp (g1.t p (by rw [e]; exact fun z => nomatch z))
  cases dd with
  | cons a1 t1 =>
    cases t1 with
    | cons a2 t2 =>
      cases t2 with
      | cons a3 t3 =>
        cases t3
        rw [dp_int a1, dp_int a2, dp_int a3] at h2
        exact k p G2 H2 (g1.trans g2) h0 n2 ⟨_, _, 0, h2, Int.le_refl 0, Int.le_refl 0⟩
/-! ### _law_right -/
-- slots: 0 _law_box_here*, 1 _law_much_so, 2 _law_size_so, 3 _law_tags, 4 _law_rows, 5 _law_own
abbrev N_l_right : List Str := ["_law_box_here", "_law_much_so", "_law_size_so", "_law_tags", "_law_rows", "_law_own"]
theorem sc_l_right : FnScope N_l_right ["_law_box_here"] (defScope st_l_right) := ⟨rfl, rfl, rfl, by decide +kernel, rfl, by decide +kernel, by decide +kernel⟩
theorem bd_l_right : BindOk "_law_right" "_law_right" st_l_right ["_law_box_here"] := fun _ _ _ _ _ _ us hl => match us, hl with | [_], _ => rfl
abbrev spHand (K : PySem.W.Frag) : Sp := spP K (fun _ : Unit => []) (fun _ => True) (fun _ => .bool true)
abbrev spRight (K : PySem.W.Frag) : Sp := spB K 3000 (fun _ : Unit => []) (fun _ => True) (fun _ d => d = .bool true)
theorem ok_l_right (T : Txt K mg) (C_l_by_hand_right : Callee P w K mg base 21 "_law_by_hand_right" [] (spHand K)) : Callee P w K mg base 22 "_law_right" ["_law_box_here"] (spRight K) := by
  have C_l_take : Callee P w K mg base 1 "_law_take" ["_law_box_here", "_law_size_so"] (spTake K) := ok_l_take T
  have C_l_of : Callee P w K mg base 2 "_law_of" ["_law_box_here", "_law_goods_so"] (spOfQ K) := ok_l_ofQ T
  have C_l_names : Callee P w K mg base 3 "_law_names" ["_law_box_here", "_law_much_so"] (spNames K) := ok_l_names T
  have C_l_some_rows : Callee P w K mg base 4 "_law_some_rows" ["_law_box_here", "_law_tags", "_law_many", "_law_most"] (spSome K) := ok_l_some_rows T
  have C_l_asked_right : Callee P w K mg base 21 "_law_asked_right" ["_law_box_here", "_law_tags", "_law_size_so", "_law_hidden"] (spAsked K) := ok_l_asked_right T
  have C_l_least : Callee P w K mg base 2 "_law_least" ["_law_rows"] (spLLeast K) := ok_l_least T
  refine callee_of T.f_l_right T.g_l_right sc_l_right bd_l_right (spB_len fun _ => rfl) fun cdv A outer s H vs Q E hr hh => ?_
  obtain ⟨b, ws, ⟨⟩, G, N, rfl, hs, h0, hb, hN, ha, _, k⟩ := hh
  have hN : N + 3000 ≤ LIM := hN
  cases ha
  refine ⟨_, (pss_cons (ps_if (pt_not (pt_val (pe_callC0 C_l_by_hand_right hr (by omega) rfl))) (pss_one (ps_ret pe_bl)) pss_nil)
        (pss_cons (ps_asg (pe_callC C_l_of hr (by omega) rfl (pa_cons (pv 0) (pa_cons (pe_lst (pa_cons (pe_tup (pa_cons pe_int (pa_cons pe_int pa_nil))) (pa_cons (pe_tup (pa_cons pe_int (pa_cons pe_int pa_nil))) (pa_cons (pe_tup (pa_cons pe_int (pa_cons pe_int pa_nil))) (pa_cons (pe_tup (pa_cons pe_int (pa_cons pe_int pa_nil))) (pa_cons (pe_tup (pa_cons pe_int (pa_cons pe_int pa_nil))) pa_nil)))))) pa_nil))) (k_pg_tup (K := K) (n := 2) rfl rfl (pgs_cons (pg_name (i := 1) sc_l_right.nd rfl (by first | exact Or.inl rfl | exact Or.inr rfl)) (pgs_cons (pg_name (i := 2) sc_l_right.nd rfl (by first | exact Or.inl rfl | exact Or.inr rfl)) pgs_nil))))
        (pss_cons (ps_set (i := 3) sc_l_right.nd rfl (by first | exact Or.inl rfl | exact Or.inr rfl) (pe_callTy (T := "tuple") (k_tuple (K := K) rfl) (by rfl) T.b_tuple (by decide +kernel) (pa_cons (pe_callB (id := "sorted") (k_sortedL (K := K) rfl (Rm65 hr)) (by rfl) T.b_sorted (by decide +kernel) (pa_cons (pe_callC C_l_names hr (by omega) rfl (pa_cons (pv 0) (pa_cons (pv 1) pa_nil))) pa_nil)) pa_nil)))
        (pss_cons (ps_setLc (own := [("_law_own", 5)]) (i := 4) rfl sc_l_right.nd rfl rfl (sw_true rfl rfl rfl (by decide +kernel)) (k_pi_sq (K := K) rfl (pe_callC C_l_some_rows hr (by omega) rfl (pa_cons (pv 0) (pa_cons (pv 3) (pa_cons pe_int (pa_cons (pv 2) pa_nil)))))) (blkOk_by (by kernel_rfl)) (fun _ _ _ _ _ => (pg_name (i := 5) sc_l_right.nd rfl (by first | exact Or.inl rfl | exact Or.inr rfl))) (fun _ _ _ _ _ => pts_one (PW.pt (pw_or (pt_cmpR (k_neP (K := K) rfl (Rm65 hr)) (pv 5) (pe_tup pa_nil) (nomark _)) (pw_or1 (pt_cmpR (op_eq) (pe_callC C_l_take hr (by omega) rfl (pa_cons (pv 0) (pa_cons pe_int pa_nil))) pe_int (nomark _)))))) (fun _ _ _ _ _ => (pv 5)))
        (pss_one (ps_ret (pe_callC C_l_asked_right hr (by omega) rfl (pa_cons (pv 0) (pa_cons (pv 3) (pa_cons (pv 2) (pa_cons (pe_callC C_l_least hr (by omega) rfl (pa_cons (pv 4) pa_nil)) pa_nil))))))))))), ?_⟩
  refine q_if (c := c0) (G := G) (φ := is false) ((et_not (b := true) (et_B (ev_call (K := K) () ea_nil trivial))).to rfl) hs trivial fun bb G1 H1 g1 _ e => ?_
  subst e
  have g1 : Grow B0 G H G1 H1 := g1
  have gw1 : Grow (fun a => a = b) G H G1 H1 := Grow.wide g1
  have n1 := Grow.boxN gw1 h0 hb
  have bx1 := hb.same fun o ho => g1.same _ _ ho
  let pr : Int → Int → PyData := fun i j => .tuple [.int i, .int j]
  refine evN_call (K := K) (b := b) (n := 1) (E := E0) (σ := [some (.ref b), none, none, none, none, none]) (false, [pr 2 3, pr 3 2, pr 2 2, pr 3 1, pr 2 2]) (j := 0) rfl (ea_cons (ev_lstX (ex_cons (ev_tup2 ev_int ev_int) (ex_cons (ev_tup2 ev_int ev_int) (ex_cons (ev_tup2 ev_int ev_int) (ex_cons (ev_tup2 ev_int ev_int) (ex_cons (ev_tup2 ev_int ev_int) ex_nil))))) (by simp)) ea_nil) ⟨by simp, by simp⟩ N G1 H1 (by omega) (Same.refl G1) g1.s n1 bx1 _ fun v d G2 H2 g2 n2 bx2 dv hd => ?_
  have hd : ∃ m s : Nat, d = pr m s ∧ m ≤ 3 ∧ s ≤ 3 ∧ 0 < m ∧ ∀ names : List Str, names.length = m → (shortOf names s).length ≤ 15 := by
    have hd : d ∈ [pr 2 3, pr 3 2, pr 2 2, pr 3 1, pr 2 2] := hd
    simp only [List.mem_cons, List.not_mem_nil, or_false] at hd
    rcases hd with rfl | rfl | rfl | rfl | rfl
    · exact ⟨2, 3, rfl, by omega, by omega, by omega, fun names h => by rw [(shortOf_len (names := names)).2.2, h]; decide⟩
    · exact ⟨3, 2, rfl, by omega, by omega, by omega, fun names h => by rw [(shortOf_len (names := names)).2.1, h]; decide⟩
    · exact ⟨2, 2, rfl, by omega, by omega, by omega, fun names h => by rw [(shortOf_len (names := names)).2.1, h]; decide⟩
    · exact ⟨3, 1, rfl, by omega, by omega, by omega, fun names h => by rw [(shortOf_len (names := names)).1, h]; decide⟩
    · exact ⟨2, 2, rfl, by omega, by omega, by omega, fun names h => by rw [(shortOf_len (names := names)).2.1, h]; decide⟩
  obtain ⟨much, size, rfl, hm3, hs3, hm0, hfew⟩ := hd
  obtain ⟨v1, v2, d1, d2, tg⟩ := tg_pair (i := 1) (j := 2) (σ := [some (.ref b), none, none, none, none, none]) dv
  refine tg H2 _ g2.s ?_
  have gg2 := gw1.trans g2
  refine q_asgN (K := K) (b := b) (n := 60) (N := N + 1) (G := G2) (φ := fun d => ∃ xs : List Str, d = wd xs ∧ xs.length = much ∧ xs.Nodup) (evN_tupleL (EvN.imp (evN_sortedS (Φ := fun xs => xs.length = much ∧ xs.Nodup) (fun xs ys pm q => ⟨by rw [pm.length_eq]; exact q.1, pm.nodup_iff.mpr q.2⟩) (EvN.imp (evN_call (n := 60) (E := E0) much (j := 0) rfl (ea_cons (ev_var (i := 1) rfl d1) ea_nil) hm3) fun d ⟨xs, e, h1, h2⟩ => ⟨xs, e, by rw [h1]; omega, h1, h2⟩)) fun d ⟨xs, e, _, h1, h2⟩ => ⟨_, e, xs, rfl, h1, h2⟩)) (by omega) g2.s n2 bx2 fun v3 d3 G3 H3 g3 n3 bx3 dv3 ⟨names, e3, hnl, hnn⟩ => ?_
  subst e3
  have gg3 := gg2.trans g3
  have d23 := dp_mono g3.g _ _ d2
  have hne : names ≠ [] := fun e => by rw [e] at hnl; exact absurd hnl (by simp; omega)
  refine q_asgN (K := K) (b := b) (n := 50 + 1 * 3) (N := N + 61) (G := G3) (φ := fun d => ∃ ls : List Wd, d = bsD false ls ∧ ls.length ≤ 3 ∧ ∀ l ∈ ls, l.length ≤ size ∧ ∀ x ∈ l, x ∈ names) (EvN.imp (evN_lc (n := 50) (k := 1) (L := 3) wd (fun ls => ∀ l ∈ ls, l.length ≤ size ∧ ∀ x ∈ l, x ∈ names) (fun _ _ => True) (fun l d => d = wd l) (srcN (evN_call (n := 50) (E := E0) (names, 3, size) (j := 0) rfl (ea_cons (ev_var (i := 3) rfl dv3) (ea_cons (ev_int (i := ((3 : Nat) : Int))) (ea_cons (ev_var (i := 2) rfl d23) ea_nil))) ⟨hne, by show names.length ≤ 1000; omega, by show 3 ≤ 4; omega, by show size ≤ 7; omega⟩)) (by omega) fun xs x G4 v4 hxs hx s4 dv4 => ⟨_, tg_name, rfl, fun N' G5 H5 hN' s5 t5 n5 bx5 Q1 q1 Q2 q2 => ?_⟩) fun d ⟨xs, ds, h1, h2, e, pk⟩ => ?_) (by omega) g3.s n3 bx3 fun v4 d4 G4 H4 g4 n4 bx4 dv4 ⟨ls, e4, hll, hls⟩ => ?_
  · refine et_test (c := c0) (ev_neE (K := K) (x := x) (y := []) enc_wd (by omega) (ev_var (i := 5) rfl dv4) (ev_tupX ex_nil (by simp))) G5 H5 s5 t5 trivial _ fun bb G6 H6 g6 _ e => ?_
    have g6 : Grow B0 G5 H5 G6 H6 := g6
    have gw6 : Grow (fun a => a = b) G5 H5 G6 H6 := Grow.wide g6
    have n6 := Grow.boxN gw6 n5 bx5
    have bx6 := bx5.same fun o ho => g6.same _ _ ho
    have dv46 := dp_mono (s5.trans g6.g) _ _ dv4
    cases bb with
    | true =>
      refine if_pos rfl ▸ ?_
      exact ⟨v4, rfl, q2 v4 (wd x) G6 H6 gw6 (bx6.up (by omega)) dv46 trivial rfl⟩
    | false =>
      rw [if_neg Bool.false_ne_true]
      refine evN_call (K := K) (b := b) (n := 1) (E := E0) (G := G6) 8 (j := 0) rfl (ea_cons (ev_int (i := ((8 : Nat) : Int))) ea_nil) ⟨by decide, by decide⟩ N' G6 H6 (by omega) (Same.refl G6) g6.s n6 bx6 _ fun v5 d5 G7 H7 g7 n7 bx7 dv5 ⟨i, e5, hi⟩ => ?_
      subst e5
      rw [dp_int dv5]
      have gg7 := gw6.trans g7
      have dv47 := dp_mono g7.g _ _ dv46
      refine ⟨rfl, decide (V.int (i : Int) = V.int 0), rfl, ?_⟩
      generalize decide (V.int (i : Int) = V.int 0) = qb
      cases qb with
      | true => exact ⟨v4, rfl, q2 v4 (wd x) G7 H7 gg7 (bx7.up (by omega)) dv47 trivial rfl⟩
      | false => exact q1 G7 H7 gg7 (bx7.up (by omega)) trivial
  · subst e
    obtain ⟨ls, rfl⟩ := pre_map (f := wd) (l := ds) fun d hd => by
      obtain ⟨x, _, q⟩ := pk.mem d hd
      exact ⟨x, q⟩
    refine ⟨ls, rfl, ?_, fun l hl => ?_⟩
    · have := pk.len
      rw [List.length_map] at this
      omega
    · obtain ⟨x, hx, q⟩ := pk.mem (wd l) (List.mem_map.mpr ⟨l, hl, rfl⟩)
      rw [wd_inj q]
      exact h1 x hx
  subst e4
  have gg4 := gg3.trans g4
  have c : Case names size (lawLeast ls) := ⟨hnn, by omega, hs3, hfew names hnl, lawLeast_base ls, fun w hw => mem_shortOf.mpr (hls w (lawLeast_mem hw))⟩
  refine evN_call (K := K) (b := b) (n := 2000) (E := E0) (σ := [some (.ref b), some v1, some v2, some v3, some v4, none]) (names, size, lawLeast ls) (j := 0) rfl (ea_cons (ev_var (i := 3) rfl (dp_mono g4.g _ _ dv3)) (ea_cons (ev_var (i := 2) rfl (dp_mono g4.g _ _ d23)) (ea_cons (ev_call (false, ls) (ea_cons (ev_var (i := 4) rfl dv4) ea_nil) (by show ls.length < 64; omega)) ea_nil))) ⟨c, hne⟩ (N + 61 + 53) G4 H4 (by omega) (Same.refl G4) g4.s n4 bx4 _ fun v d G5 H5 g5 n5 bx5 dv e => ?_
  exact k v d G5 H5 (gg4.trans g5) n5 (bx5.up (by omega)) dv e
end
end Mk
/-! ## MkW20 -/
set_option autoImplicit true
set_option Elab.async false
set_option linter.all false
set_option maxRecDepth 100000
set_option maxHeartbeats 4000000
namespace Mk
open PySem PySem.Spec PyProof.Rows L2 MkM
section
variable {P : Program} {w : World} {K : PySem.W.Frag} {mg : Str → Option Value} {base : Heap}
theorem q_asgBox {t : TA} {l k : Nat} {σ : St} {G H : Hp} {xs : List Int} {tz : TS} {D : Ends} (h : EA c0 K t σ G (dats [.list (xs.map .int), .int (k : Int)])) (s : Same G H) (hk : k < xs.length)
    (kk : ∀ p G1 H1, Grow B0 G H G1 H1 → H p = none → G1 p = none → BoxAt p 0 H1 → tz D (σ.set l (some (.ref p))) H1) : tSeq (tAsg (tCall (spBox K) [] E0 t) (gName l)) tz D σ H :=
  h G H (Same.refl G) s trivial _ fun vs G3 H3 g3 _ p3 => by
    obtain ⟨u1, u2, rfl, a1, a2⟩ := dpa_two (agOk_dats p3)
    have g3 : Grow B0 G H G3 H3 := g3
    refine ⟨u1, u2, xs, k, G3, rfl, g3.s, a1, a2, hk, fun p G4 H4 g4 hp n4 bx4 => kk p G4 H4 (g3.trans g4) ?_ n4 bx4⟩
    cases e : H p with
    | none => rfl
    | some u => exact absurd hp (g3.t p (by rw [e]; exact fun z => nomatch z))
/-! ### law -/
-- slots: 0 _law_script, 1 _law_cells_so, 2 _law_k, 3 _law_box_here
abbrev N_law : List Str := ["_law_script", "_law_cells_so", "_law_k", "_law_box_here"]
theorem sc_law : FnScope N_law ["_law_script"] (defScope st_law) := ⟨rfl, rfl, rfl, by decide +kernel, rfl, by decide +kernel, by decide +kernel⟩
theorem bd_law : BindOk "law" "law" st_law ["_law_script"] := fun _ _ _ _ _ _ us hl => match us, hl with | [_], _ => rfl
abbrev spLaw (K : PySem.W.Frag) : Sp := spP K (fun xs : List Int => [.list (xs.map .int)]) (fun xs => xs.length ≤ 1000) (fun _ => .bool true)
theorem ok_law (T : Txt K mg) (C_l_by_hand_right : Callee P w K mg base 21 "_law_by_hand_right" [] (spHand K)) : BodyOk P w K mg base 22 N_law "law" st_law (He.ga K "law") (spLaw K) := by
  have C_l_cells : Callee P w K mg base 1 "_law_cells" ["_law_script", "_law_top_so"] (spCells K) := ok_l_cells T
  have C_l_box : Callee P w K mg base 1 "_law_box" ["_law_script", "_law_k"] (spBox K) := ok_l_box T
  have C_l_right : Callee P w K mg base 22 "_law_right" ["_law_box_here"] (spRight K) := ok_l_right T C_l_by_hand_right
  intro cdv A outer s H vs Q E hr hh
  obtain ⟨xs, G, hs, ha, hx, k⟩ := hh
  have hx : xs.length ≤ 1000 := hx
  obtain ⟨v0, rfl, d0⟩ := dpa_one ha
  refine ⟨_, (pss_cons (ps_set (i := 1) sc_law.nd rfl (by first | exact Or.inl rfl | exact Or.inr rfl) (pe_callC C_l_cells hr (by omega) rfl (pa_cons (pv 0) (pa_cons pe_int pa_nil))))
        (pss_cons (ps_for PassesOwn.never rfl (pi_range1 rfl T.b_range (pa_cons (pe_callB (id := "len") (k_len (K := K) rfl) (by rfl) T.b_len (by decide +kernel) (pa_cons (pv 1) pa_nil)) pa_nil)) (pg_name (i := 2) sc_law.nd rfl (by first | exact Or.inl rfl | exact Or.inr rfl)) (pss_cons (ps_set (i := 3) sc_law.nd rfl (by first | exact Or.inl rfl | exact Or.inr rfl) (pe_callC C_l_box hr (by omega) rfl (pa_cons (pv 1) (pa_cons (pv 2) pa_nil))))
        (pss_one (ps_if (pt_not (pt_val (pe_callC C_l_right hr (by omega) rfl (pa_cons (pv 3) pa_nil)))) (pss_one (ps_ret pe_bl)) pss_nil))))
        (pss_one (ps_ret pe_bl)))), ?_⟩
  refine q_asg (c := c0) (K := K) (G := G) (φ := fun d => ∃ ys : List Int, d = .list (ys.map .int) ∧ ys.length ≤ 2) (ev_callX (ea_cons (ev_var rfl d0) (ea_cons (ev_int (i := 2)) ea_nil)) fun G1 H1 vs _ s1 _ p1 Q q => ?_) hs trivial fun v1 d1 G1 H1 g1 _ dv1 ⟨ys, e, hy⟩ => ?_
  · obtain ⟨u1, u2, rfl, a1, a2⟩ := dpa_two (agOk_dats p1)
    exact ⟨u1, u2, xs, G1, rfl, s1, a1, a2, hx, fun v ys G2 H2 g2 dv hy => q v _ G2 H2 g2 trivial dv ⟨ys, rfl, hy⟩⟩
  subst e
  have g1 : Grow B0 G H G1 H1 := g1
  refine q_forI (c := c0) (K := K) (G := G1) (fun i : Nat => PyData.int (i : Int)) (List.range ys.length) (es_range (K := K) (n := ys.length) (ea_cons ((ev_lenL (ev_var (i := 1) rfl dv1)).to (by rw [List.length_map])) ea_nil) (by omega)) g1.s trivial
    (fun i σ' G' H' => Grow B0 G H G' H' ∧ Same G1 G' ∧ ∃ y2 y3, σ' = [some v0, some v1, y2, y3])
    (fun G2 H2 g2 _ => ⟨g1.trans g2, g2.g, none, none, rfl⟩) (fun i σ' G' H' q => q.1.s) ?_ ?_
  · rintro G0 hG i x σ' G' H' hx s0 ⟨g, s1, y2, y3, rfl⟩ v G2 H2 g2 dv
    refine ⟨_, tg_name, ?_⟩
    have hxi : x < ys.length := by
      have := List.mem_of_getElem? hx
      rwa [List.mem_range] at this
    have gg := g.trans g2
    have hv := dp_int dv
    subst hv
    refine q_asgBox (ea_cons (c := c0) (K := K) (ev_var (i := 1) rfl (dp_mono (s1.trans g2.g) _ _ dv1)) (ea_cons (ev_var (i := 2) rfl (.int (x : Int))) ea_nil)) g2.s hxi fun p G4 H4 g4 hp n4 bx4 => ?_
    have gg4 := gg.trans g4
    have h0 : H p = none := by
      cases e : H p with
      | none => rfl
      | some u => exact absurd hp (gg.t p (by rw [e]; exact fun z => nomatch z))
    refine ⟨.ref p, rfl, p, [], (), G4, 0, rfl, g4.s, n4, bx4, by decide, .nil, trivial, fun v5 d5 G5 H5 g5 n5 bx5 dv5 e => ⟨true, by subst e; exact dp_bool dv5, ?_⟩⟩
    have g5' : Grow (fun a => B0 a ∨ a = p) G4 H4 G5 H5 := ⟨g5.g, fun a o nb e => g5.h a o (fun q => nb (.inr q)) e, g5.s, g5.n, g5.t⟩
    exact ⟨G5, (s0.trans g2.g).trans (g4.g.trans g5.g), gg4.thenB g5' h0, (s1.trans g2.g).trans (g4.g.trans g5.g), _, _, rfl⟩
  · rintro σ' G' H' sg ⟨g, s1, y2, y3, rfl⟩
    exact st_ret (c := c0) (K := K) (G := G') (φ := is (.bool true)) (ev_C (.bl true)) g.s trivial fun v d G3 H3 g3 _ dv e => by
      subst e
      exact k v G3 H3 (g.trans g3) dv
end
end Mk
/-! ## MkW21 -/
set_option autoImplicit true
set_option Elab.async false
set_option linter.all false
set_option maxRecDepth 100000
set_option maxHeartbeats 4000000
namespace Mk
open PySem PySem.Spec PyProof.Rows L2 MkM
section
variable {X : Cx} {C : Addr} {ps : List Str} {sp : Sp} {k j : Nat}
/-- len of an instance with its own __len__ -/
theorem cr_lenF (F : MCallee X.prog X.w X.K X.mg X.base k C "__len__" ps sp) (hr : Room j X.A) (hk : k + 1 ≤ j) : CallR X (.builtin "len") (fun xs H Q => ∃ a dx fs, xs = [V.ref a] ∧ H a = some (.ins C dx fs) ∧ sp [V.ref a] H (fun v H1 => ∃ n : Nat, v = .int (n : Int) ∧ n < 1000000 ∧ Q v H1) E0) := by
  intro pins s σ H xs us Q I r h
  obtain ⟨a, dx, fs, rfl, ha, q⟩ := h
  obtain ⟨f, fd, F, mm, b⟩ := F.ex
  rw [Vals.ref1 r]
  obtain ⟨mA, O, _, _, _, _⟩ := ins_get I.hok ha
  obtain ⟨od, J, _⟩ := O.look
  obtain ⟨m, hF⟩ := I.fr
  have hl : ([Value.ref a] ++ ([] : List Value)).length = ps.length := (F.len _ _ _ _ q)
  have hr1 : Room k X.A.in1 := (hr.mono hk).in1
  have key : codeAny (model X.prog X.w) X.A.in1 (.call (.ref f) ⟨[.ref a], []⟩) (fun r s' => match r with | .ok (.ret v) => EP X pins σ (fun v H1 => ∃ n : Nat, v = .int (n : Int) ∧ n < 1000000 ∧ Q v H1) v s' | .ok _ => False | .error e => X.xe e s') s := by
    refine codeAny_mono (F.run X.A.in1 X.stack s H ⟨[.ref a], []⟩ [.ref a] [.ref a] _ E0 hr1 I.env0.in1 (b s [.ref a] I.kIn hl) (.cons rfl .nil) q) fun r s' hq => ?_
    cases r with
    | error e => exact pass0 pins σ H s e s' I hq
    | ok fl =>
      cases fl with
      | ret u => exact I.after hq
      | next => exact False.elim hq
      | brk => exact False.elim hq
      | cont => exact False.elim hq
  refine PySem.W.len_K hF I.ok.mod.kin J mm.at_ mm.fn (wpAny_mono (wpAny_call key) (fun w s' z => ?_) fun _ _ x => x)
  obtain ⟨z', H', I', rz, n, ez, hn, qz⟩ := z
  subst ez
  obtain ⟨t, e⟩ := (show ∃ t, w = Value.int (n : Int) t from rz)
  cases e
  exact ⟨⟨by omega, by omega⟩, .int (n : Int), H', I'.tok _, ⟨_, rfl⟩, qz⟩
end
section
variable {c : Ctx} {K : PySem.W.Frag} {σ : St} {G : Hp} {a : Addr} {fs : List (Str × V)} {f : Fd}
abbrev spLenF (K : PySem.W.Frag) : Sp := spF K (fun _ : Unit => []) (fun _ _ => True) (fun f _ => .int (f.asks.length : Int))
theorem ev_lenF {i : Nat} (hi : σ[i]? = some (some (.ref a))) (h : FD K f fs G) (ho : f.Ok) (hl : f.asks.length < 1000000) : Ev (cF c K a fs) K (tCB (fun xs H Q => ∃ a dx fs, xs = [V.ref a] ∧ H a = some (.ins (FC K) dx fs) ∧ spLenF K [V.ref a] H (fun v H1 => ∃ n : Nat, v = .int (n : Int) ∧ n < 1000000 ∧ Q v H1) E0) (tCons (tVar i) tNil)) σ G (is (.int (f.asks.length : Int))) := fun G0 H x y j Q q => by
  obtain ⟨dx, hx⟩ := j.2
  exact ⟨.ref a, hi, a, dx, fs, rfl, hx, a, dx, fs, [], f, (), G0, rfl, y, hx, h.mono x, .nil, ho, trivial, fun v G2 H2 g2 d2 => ⟨f.asks.length, dp_int d2, hl, q v _ G2 H2 g2.wide ((cF c K a fs).same j g2.same) d2 rfl⟩⟩
end
section
variable {P : Program} {w : World} {K : PySem.W.Frag} {mg : Str → Option Value} {base : Heap}
-- slots: 0 self
abbrev N_F_len : List Str := ["self"]
theorem sc_F_len : FnScope N_F_len ["self"] (defScope st_F_len) := ⟨rfl, rfl, rfl, by decide +kernel, rfl, by decide +kernel, by decide +kernel⟩
theorem bd_F_len : BindOk "__len__" "Finder.__len__" st_F_len ["self"] := fun _ _ _ _ _ _ us hl => match us, hl with | [_], _ => rfl
theorem ok_F_len (T : Txt K mg) : MCallee P w K mg base 1 (FC K) "__len__" ["self"] (spLenF K) := by
  refine mcallee_of T.f_F_len T.m_F_len sc_F_len bd_F_len (spF_len fun _ => rfl) fun cdv A outer s H vs Q E hr h => ?_
  obtain ⟨a, dx, fs, ws, f, u, G, rfl, hs, hx, hd, ha, ho, hp, k⟩ := h
  have e := dpa_len ha
  have e : ws = [] := List.length_eq_zero_iff.mp e
  subst e
  have j0 : (cF c0 K a fs).J H := ⟨trivial, dx, hx⟩
  refine ⟨_, (pss_one (ps_ret (pe_callB (id := "len") (k_len (K := K) rfl) (by rfl) T.b_len (by decide +kernel) (pa_cons (k_fld (K := K) rfl (pv 0) rfl) pa_nil)))), ?_⟩
  exact st_ret (c := cF c0 K a fs) (K := K) (G := G) (φ := is (.int (f.asks.length : Int))) ((ev_lenT (ev_asks T rfl hd)).to (by rw [List.length_map])) hs j0 fun v d G1 H1 g1 _ dv e => by subst e; exact k v G1 H1 g1 dv
end
/-! ### five cases by hand -/
abbrev hn : List Str := ["a", "b"]
def turnF (h : List Wd) (f : Fd) : Fd := match f.next with
  | none => f
  | some l => f.put l (does h l)
def turns (h : List Wd) : Nat → Fd
  | 0 => fd0 hn 2
  | n + 1 => turnF h (turns h n)
def rows5 : List (List Wd × Nat × Nat) := [([], 7, 1), ([[]], 1, 1), ([["a", "b"]], 7, 2), ([["a", "a"], ["b", "b"]], 7, 4), ([["a"], ["b", "b"]], 4, 3)]
def res5 (q : List Wd × Nat × Nat) : List PyData := [bsD true q.1, .int (q.2.1 : Int), .int (q.2.2 : Int)]
theorem five : ∀ q ∈ rows5, (turns q.1 7).found = some q.1 ∧ (turns q.1 7).asks.length = q.2.1 ∧ (paperO hn 2 q.1).length = q.2.2 ∧ lawLeast q.1 = q.1 ∧ (∀ w ∈ q.1, w ∈ shortOf hn 2) ∧ q.1.length ≤ 2 := by decide +kernel
theorem hn_nd : hn.Nodup := by decide +kernel
theorem case5 {q : List Wd × Nat × Nat} (hq : q ∈ rows5) : Case hn 2 q.1 := by
  obtain ⟨_, _, _, h4, h5, _⟩ := five q hq
  exact ⟨hn_nd, by decide, by decide, by decide +kernel, by rw [← h4]; exact lawLeast_base _, h5⟩
theorem turns_ok {h : List Wd} (c : Case hn 2 h) : ∀ n : Nat, Hid h (turns h n) ∧ (turns h n).names = hn ∧ (turns h n).most = 2 ∧ (turns h n).asks.length ≤ n
  | 0 => ⟨hid0 c, rfl, rfl, Nat.le_refl _⟩
  | n + 1 => by
    obtain ⟨h1, h2, h3, h4⟩ := turns_ok c n
    show Hid h (turnF h (turns h n)) ∧ (turnF h (turns h n)).names = hn ∧ (turnF h (turns h n)).most = 2 ∧ (turnF h (turns h n)).asks.length ≤ n + 1
    unfold turnF
    cases e : (turns h n).next with
    | none => exact ⟨h1, h2, h3, Nat.le_trans h4 (Nat.le_succ n)⟩
    | some l => exact ⟨h1.put l, h2, h3, Nat.le_trans put_len (Nat.succ_le_succ h4)⟩
section
variable {P : Program} {w : World} {K : PySem.W.Frag} {mg : Str → Option Value} {base : Heap}
/-! ### _law_by_hand_right -/
-- slots: 0 _law_tags, 1 _law_got, 2 _law_hidden, 3 _law_finder, 4 _law_turn, 5 _law_row, 6 _law_due
abbrev N_l_by_hand_right : List Str := ["_law_tags", "_law_got", "_law_hidden", "_law_finder", "_law_turn", "_law_row", "_law_due"]
theorem sc_l_by_hand_right : FnScope N_l_by_hand_right [] (defScope st_l_by_hand_right) := ⟨rfl, rfl, rfl, by decide +kernel, rfl, by decide +kernel, by decide +kernel⟩
theorem bd_l_by_hand_right : BindOk "_law_by_hand_right" "_law_by_hand_right" st_l_by_hand_right [] := fun _ _ _ _ _ _ us hl => match us, hl with | [], _ => rfl
theorem ok_l_by_hand_right (T : Txt K mg) : Callee P w K mg base 21 "_law_by_hand_right" [] (spHand K) := by
  have C_l_done : Callee P w K mg base 2 "_law_done" ["_law_words_so", "_law_row"] (spDone K) := ok_l_done T
  have C_l_same : Callee P w K mg base 4 "_law_same" ["_law_got", "_law_due"] (spSame K 3) := ok_same T 3
  have C_paper : Callee P w K mg base 19 "paper" ["names", "most", "base"] (spPaper K) := ok_paper T
  have C_F_init : MkCallee P w K mg base 2 (FC K) ["self", "names", "most"] (spInit K) := ok_F_init T
  have C_F_answered : MCallee P w K mg base 5 (FC K) "answered" ["self", "log", "done"] (spAnswered K) := ok_F_answered T
  have C_F_found : MCallee P w K mg base 6 (FC K) "found" ["self"] (spFound K) := ok_F_found T
  have C_F_next_ask : MCallee P w K mg base 5 (FC K) "next_ask" ["self"] (spNext K) := ok_F_next_ask T
  have C_F_len : MCallee P w K mg base 1 (FC K) "__len__" ["self"] (spLenF K) := ok_F_len T
  refine callee_of T.f_l_by_hand_right T.g_l_by_hand_right sc_l_by_hand_right bd_l_by_hand_right (spP_len fun _ => rfl) fun cdv A outer s H vs Q E hr hh => ?_
  obtain ⟨_, G, hs, ha, _, k⟩ := hh
  cases ha
  refine ⟨_, (pss_cons (ps_par (i := 0) (j := 1) (by rfl) sc_l_by_hand_right.nd rfl rfl (by decide) rfl rfl (pa_cons (pe_tup (pa_cons pe_str (pa_cons pe_str pa_nil))) (pa_cons (pe_lst pa_nil) pa_nil)) (by rfl))
        (pss_cons (ps_for PassesOwn.never rfl (k_pi_sq (K := K) rfl (pe_tup (pa_cons (pe_tup pa_nil) (pa_cons (pe_tup (pa_cons (pe_tup pa_nil) pa_nil)) (pa_cons (pe_tup (pa_cons (pe_tup (pa_cons pe_str (pa_cons pe_str pa_nil))) pa_nil)) (pa_cons (pe_tup (pa_cons (pe_tup (pa_cons pe_str (pa_cons pe_str pa_nil))) (pa_cons (pe_tup (pa_cons pe_str (pa_cons pe_str pa_nil))) pa_nil))) (pa_cons (pe_tup (pa_cons (pe_tup (pa_cons pe_str pa_nil)) (pa_cons (pe_tup (pa_cons pe_str (pa_cons pe_str pa_nil))) pa_nil))) pa_nil))))))) (pg_name (i := 2) sc_l_by_hand_right.nd rfl (by first | exact Or.inl rfl | exact Or.inr rfl)) (pss_cons (ps_set (i := 3) sc_l_by_hand_right.nd rfl (by first | exact Or.inl rfl | exact Or.inr rfl) (pe_makeC C_F_init hr (by omega) rfl T.g_Finder (pa_cons (pv 0) (pa_cons pe_int pa_nil))))
        (pss_cons (ps_for PassesOwn.never rfl (pi_range1 rfl T.b_range (pa_cons pe_int pa_nil)) (pg_name (i := 4) sc_l_by_hand_right.nd rfl (by first | exact Or.inl rfl | exact Or.inr rfl)) (pss_cons (ps_set (i := 5) sc_l_by_hand_right.nd rfl (by first | exact Or.inl rfl | exact Or.inr rfl) (pe_methC0 C_F_next_ask (pv 3) T.cl hr (by omega)))
        (pss_one (ps_if (pt_cmp (pc_notN (pv 5)) rfl) (pss_one (ps_expr (pe_methC C_F_answered (pv 3) T.cl hr (by omega) (pa_cons (pv 5) (pa_cons (pe_callC C_l_done hr (by omega) rfl (pa_cons (pv 2) (pa_cons (pv 5) pa_nil))) pa_nil))))) pss_nil))))
        (pss_one (ps_set (i := 1) sc_l_by_hand_right.nd rfl (by first | exact Or.inl rfl | exact Or.inr rfl) (pe_op (k_cat (K := K) rfl) (pv 1) (pe_lst (pa_cons (pe_methC0 C_F_found (pv 3) T.cl hr (by omega)) (pa_cons (pe_callB (id := "len") (cr_lenF C_F_len hr (by omega)) (by rfl) T.b_len (by decide +kernel) (pa_cons (pv 3) pa_nil)) (pa_cons (pe_callB (id := "len") (k_len (K := K) rfl) (by rfl) T.b_len (by decide +kernel) (pa_cons (pe_callC C_paper hr (by omega) rfl (pa_cons (pv 0) (pa_cons pe_int (pa_cons (pv 2) pa_nil)))) pa_nil)) pa_nil))))))))))
        (pss_cons (ps_set (i := 6) sc_l_by_hand_right.nd rfl (by first | exact Or.inl rfl | exact Or.inr rfl) (pe_lst (pa_cons (pe_tup pa_nil) (pa_cons pe_int (pa_cons pe_int (pa_cons (pe_tup (pa_cons (pe_tup pa_nil) pa_nil)) (pa_cons pe_int (pa_cons pe_int (pa_cons (pe_tup (pa_cons (pe_tup (pa_cons pe_str (pa_cons pe_str pa_nil))) pa_nil)) (pa_cons pe_int (pa_cons pe_int (pa_cons (pe_tup (pa_cons (pe_tup (pa_cons pe_str (pa_cons pe_str pa_nil))) (pa_cons (pe_tup (pa_cons pe_str (pa_cons pe_str pa_nil))) pa_nil))) (pa_cons pe_int (pa_cons pe_int pa_nil))))))))))))))
        (pss_one (ps_ret (pe_callC C_l_same hr (by omega) rfl (pa_cons (pv 1) (pa_cons (pe_op (k_cat (K := K) rfl) (pv 6) (pe_lst (pa_cons (pe_tup (pa_cons (pe_tup (pa_cons pe_str pa_nil)) (pa_cons (pe_tup (pa_cons pe_str (pa_cons pe_str pa_nil))) pa_nil))) (pa_cons pe_int (pa_cons pe_int pa_nil))))) pa_nil)))))))), ?_⟩
  have eW : ∀ {σ : St} {G : Hp} (x y : Str), Ev c0 K (tTup (tCons (tC (.str x)) (tCons (tC (.str y)) tNil))) σ G (is (wd [x, y])) := fun x y => ev_tup2 ev_str ev_str
  have eW1 : ∀ {σ : St} {G : Hp} (x : Str), Ev c0 K (tTup (tCons (tC (.str x)) tNil)) σ G (is (wd [x])) := fun x => ev_tup1 ev_str
  have eN : ∀ {σ : St} {G : Hp}, Ev c0 K (tTup tNil) σ G (is (.tuple [])) := ev_tupX ex_nil (by simp)
  have h1 : ∀ {σ : St} {G : Hp}, Ev c0 K (tTup (tCons (tTup tNil) tNil)) σ G (is (bsD true [[]])) := ev_tup1 eN
  have h2 : ∀ {σ : St} {G : Hp}, Ev c0 K (tTup (tCons (tTup (tCons (tC (.str "a")) (tCons (tC (.str "b")) tNil))) tNil)) σ G (is (bsD true [["a", "b"]])) := ev_tup1 (eW "a" "b")
  have h3 : ∀ {σ : St} {G : Hp}, Ev c0 K (tTup (tCons (tTup (tCons (tC (.str "a")) (tCons (tC (.str "a")) tNil))) (tCons (tTup (tCons (tC (.str "b")) (tCons (tC (.str "b")) tNil))) tNil))) σ G (is (bsD true [["a", "a"], ["b", "b"]])) := ev_tup2 (eW "a" "a") (eW "b" "b")
  have h4 : ∀ {σ : St} {G : Hp}, Ev c0 K (tTup (tCons (tTup (tCons (tC (.str "a")) tNil)) (tCons (tTup (tCons (tC (.str "b")) (tCons (tC (.str "b")) tNil))) tNil))) σ G (is (bsD true [["a"], ["b", "b"]])) := ev_tup2 (eW1 "a") (eW "b" "b")
  refine q_par (eW "a" "b" G H (Same.refl G) hs trivial _ fun v0 d0 G1 H1 g1 _ dv0 e0 => ev_lstX (ds := []) (c := c0) (K := K) ex_nil (by simp) G1 H1 (Same.refl G1) g1.s trivial _ fun v1 d1 G2 H2 g2 _ dv1 e1 => ⟨v0, v1, rfl, ?_⟩)
  subst e0 e1
  have g1 : Grow B0 G H G1 H1 := g1
  have g2 : Grow B0 G1 H1 G2 H2 := g2
  have gg2 := g1.trans g2
  have dv02 := dp_mono g2.g _ _ dv0
  refine q_forI (c := c0) (K := K) (G := G2) (fun q : List Wd × Nat × Nat => bsD true q.1) rows5 (es_T ((ev_tupX (ex_cons eN (ex_cons h1 (ex_cons h2 (ex_cons h3 (ex_cons h4 ex_nil))))) (by simp)).to rfl)) g2.s trivial
    (fun i σ' G' H' => Grow B0 G H G' H' ∧ Same G2 G' ∧ ∃ (u1 : V) (y2 y3 y4 y5 y6 : Option V), Dp K G' u1 (.list ((rows5.take i).map res5).flatten) ∧ σ' = [some v0, some u1, y2, y3, y4, y5, y6])
    (fun G3 H3 g3 _ => ⟨gg2.trans g3, g3.g, v1, none, none, none, none, none, dp_mono g3.g _ _ dv1, rfl⟩) (fun i σ' G' H' q => q.1.s) ?_ ?_
  · rintro G0 hG i q σ' G' H' hq s0 ⟨g, sg, u1, y2, y3, y4, y5, y6, du, rfl⟩ v G3 H3 g3 dv
    refine ⟨_, tg_name, ?_⟩
    have hm : q ∈ rows5 := List.mem_of_getElem? hq
    have hi : i < 5 := (List.getElem?_eq_some_iff.mp hq).1
    obtain ⟨f1, f2, f3, f4, f5, f6⟩ := five q hm
    have cs := case5 hm
    obtain ⟨h, n1, n2⟩ := q
    have cs : Case hn 2 h := cs
    have f1 : (turns h 7).found = some h := f1
    have f2 : (turns h 7).asks.length = n1 := f2
    have f3 : (paperO hn 2 h).length = n2 := f3
    have f6 : h.length ≤ 2 := f6
    have gg3 := g.trans g3
    have s3 := sg.trans g3.g
    have du3 := dp_mono g3.g _ _ du
    refine q_make (c := c0) (K := K) (G := G3) (names := hn) (most := 2) (ea_cons (ev_var (i := 0) rfl (dp_mono s3 _ _ dv02)) (ea_cons (ev_int (i := ((2 : Nat) : Int))) ea_nil)) g3.s trivial (by decide) (by decide) fun a G4 H4 hna g4 _ F4 => ?_
    have g4 : Grow B0 G3 H3 G4 H4 := g4
    have hna0 : H a = none := by
      cases e : H a with
      | none => rfl
      | some u => exact absurd hna (gg3.t a (by rw [e]; exact fun z => nomatch z))
    refine q_forI (c := c0) (K := K) (G := G4) (fun i : Nat => PyData.int (i : Int)) (List.range 7) (es_range (K := K) (n := 7) (ea_cons ev_int ea_nil) (by omega)) g4.s trivial
      (fun t σ' G' H' => Grow B0 G H G' H' ∧ Same G3 G' ∧ FinAt K a (turns h t) G' H' ∧ ∃ (y4 y5 : Option V), σ' = [some v0, some u1, some v, some (.ref a), y4, y5, y6])
      (fun G5 H5 g5 _ => ⟨(gg3.trans g4).trans g5, g4.g.trans g5.g, F4.grow0 g5, y4, y5, rfl⟩) (fun i σ' G' H' q => q.1.s) ?_ ?_
    · rintro G0' hG' t x σ' G' H' hx s0' ⟨g', sg', F, z4, z5, rfl⟩ vt G5 H5 g5 dvt
      refine ⟨_, tg_name, ?_⟩
      have g5 : Grow B0 G' H' G5 H5 := g5
      have F5 := F.grow0 g5
      have gg5 := g'.trans g5
      obtain ⟨t1, t2, t3, t4⟩ := turns_ok cs t
      have ht : t < 7 := by
        have := (List.getElem?_eq_some_iff.mp hx).1
        simpa using this
      have ho : (turns h t).Ok := ⟨by rw [t2]; decide, by rw [t3]; decide, by omega⟩
      obtain ⟨nF, dx, fs, hxx, hfd⟩ := F5.ex
      refine q_asg (c := cF c0 K a fs) (K := K) (G := G5) (φ := is (optW (turns h t).next)) (ev_meth () (i := 3) rfl hfd ho (by decide +kernel) ea_nil trivial) g5.s ⟨trivial, dx, hxx⟩ fun v5 d5 G6 H6 g6 j6 dv5 e5 => ?_
      subst e5
      have g6 : Grow B0 G5 H5 G6 H6 := g6
      have F6 := F5.grow0 g6
      cases e : (turns h t).next with
      | none =>
        rw [e] at dv5
        refine st_if (c := c0) (G := G6) (φ := is false) (et_B ((ev_notN (K := K) (d := .none) (ev_var (i := 5) rfl dv5) true fun G v h => nonN h).to rfl)) g6.s trivial fun bb G7 H7 g7 _ e7 => ?_
        subst e7
        have g7 : Grow B0 G6 H6 G7 H7 := g7
        refine ⟨G7, ((s0'.trans g5.g).trans g6.g).trans g7.g, (gg5.trans g6).trans g7, ((sg'.trans g5.g).trans g6.g).trans g7.g, ?_, _, _, rfl⟩
        have e8 : turns h (t + 1) = turns h t := by
          show turnF h (turns h t) = _
          unfold turnF
          rw [e]
        rw [e8]
        exact F6.grow0 g7
      | some l =>
        rw [e] at dv5
        have dv5 : Dp K G6 v5 (wd l) := dv5
        refine st_if (c := c0) (G := G6) (φ := is true) (et_B ((ev_notN (K := K) (d := wd l) (ev_var (i := 5) rfl dv5) false fun G v h => nonD (d := wd l) (fun z => nomatch z) h).to rfl)) g6.s trivial fun bb G7 H7 g7 _ e7 => ?_
        subst e7
        have g7 : Grow B0 G6 H6 G7 H7 := g7
        have F7 := F6.grow0 g7
        have dv57 := dp_mono g7.g _ _ dv5
        have hls : l ∈ (turns h t).short := List.mem_of_find?_eq_some e
        have hlx : ∀ x ∈ l, x ∈ (turns h t).names := by
          have : l ∈ shortOf (turns h t).names (turns h t).most := hls
          exact (mem_shortOf.mp this).2
        have dh7 : Dp K G7 v (bsD true h) := dp_mono (((sg'.trans g5.g).trans g6.g).trans g7.g) _ _ dv
        refine st_answered (c := c0) (l := l) (b := does h l) (Q := fun _ H1 => ∃ G'', Same G0' G'' ∧ _) rfl F7 (fun fs hfd => ea_cons (ev_var (i := 5) rfl dv57) (ea_cons (ev_call (h, l) (ea_cons (ev_var (i := 2) rfl dh7) (ea_cons (ev_var (i := 5) rfl dv57) ea_nil)) (by show h.length ≤ 100000; omega)) ea_nil)) g7.s trivial (fun z => z) ho (put_ok ho (by omega)) hlx (t1.put l).near_ne fun G8 H8 gr keep _ F8 s8 t8 => ?_
        have s78 := ((((s0'.trans g5.g).trans g6.g).trans g7.g).trans s8)
        refine ⟨G8, s78, gr G H ((gg5.trans g6).trans g7) hna0, (((sg'.trans g5.g).trans g6.g).trans g7.g).trans s8, ?_, _, _, rfl⟩
        have e8 : turns h (t + 1) = (turns h t).put l (does h l) := by
          show turnF h (turns h t) = _
          unfold turnF
          rw [e]
        rw [e8]
        exact F8
    · rintro σ' G' H' sg' ⟨g', sg3, F, z4, z5, rfl⟩
      have F : FinAt K a (turns h 7) G' H' := F
      obtain ⟨t1, t2, t3, t4⟩ := turns_ok cs 7
      have ho : (turns h 7).Ok := ⟨by rw [t2]; decide, by rw [t3]; decide, by omega⟩
      obtain ⟨nF, dx, fs, hxx, hfd⟩ := F.ex
      have du5 := dp_mono sg3 _ _ du3
      have dh5 : Dp K G' v (bsD true h) := dp_mono sg3 _ _ dv
      have dn5 : Dp K G' v0 (wd hn) := dp_mono (s3.trans sg3) _ _ dv02
      have hres : ((rows5.take i).map res5).flatten.length = 3 * i := by
        have : ∀ i < 5, ((rows5.take i).map res5).flatten.length = 3 * i := by
          intro i hi
          match i, hi with
          | 0, _ => rfl
          | 1, _ => rfl
          | 2, _ => rfl
          | 3, _ => rfl
          | 4, _ => rfl
        exact this i hi
      refine st_asg (c := cF c0 K a fs) (K := K) (G := G') (φ := is (.list (((rows5.take i).map res5).flatten ++ res5 (h, n1, n2)))) (ev_catS (ev_var (i := 1) rfl du5) (ev_lstX (ds := res5 (h, n1, n2)) (ex_cons ((ev_meth () (i := 3) rfl hfd ho (by decide +kernel) ea_nil trivial).to ?_) (ex_cons ((ev_lenF (i := 3) rfl hfd ho (by omega)).to ?_) (ex_cons ((ev_lenT (ev_call (hn, 2, h) (ea_cons (ev_var (i := 0) rfl dn5) (ea_cons (ev_int (i := ((2 : Nat) : Int))) (ea_cons (ev_var (i := 2) rfl dh5) ea_nil))) cs)).to ?_) ex_nil))) (by simp [res5])) ?_) g'.s ⟨trivial, dx, hxx⟩ fun v7 d7 G7 H7 g7 _ dv7 e7 => ?_
      · show optBs (turns h 7).found = bsD true h
        rw [f1]
        rfl
      · show PyData.int ((turns h 7).asks.length : Int) = .int (n1 : Int)
        rw [f2]
      · show PyData.int ((((paperO hn 2 h).map wd).length : Nat) : Int) = .int (n2 : Int)
        rw [List.length_map, f3]
      · rw [hres]
        show 3 * i + 3 ≤ 100000
        omega
      · subst e7
        have g7 : Grow B0 G' H' G7 H7 := g7
        refine ⟨G7, ((s0.trans g3.g).trans sg3).trans g7.g, g'.trans g7, (s3.trans sg3).trans g7.g, v7, _, _, _, _, _, ?_, rfl⟩
        rw [take_succ' hq, List.map_append, List.flatten_append]
        exact dv7
  · rintro σ' G' H' sg ⟨g, s1, u1, y2, y3, y4, y5, y6, du, rfl⟩
    have du : Dp K G' u1 (.list (rows5.map res5).flatten) := du
    refine q_asg (c := c0) (K := K) (G := G') (φ := is (.list ((rows5.take 4).map res5).flatten)) ((ev_lstX (ex_cons eN (ex_cons ev_int (ex_cons ev_int (ex_cons h1 (ex_cons ev_int (ex_cons ev_int (ex_cons h2 (ex_cons ev_int (ex_cons ev_int (ex_cons h3 (ex_cons ev_int (ex_cons ev_int ex_nil)))))))))))) (by simp)).to rfl) g.s trivial fun v6 d6 G3 H3 g3 _ dv6 e6 => ?_
    subst e6
    have g3 : Grow B0 G' H' G3 H3 := g3
    refine st_ret (c := c0) (K := K) (G := G3) (φ := is (.bool true)) (ev_call (.list (rows5.map res5).flatten) (ea_cons (ev_var (i := 1) rfl (dp_mono g3.g _ _ du)) (ea_cons ((ev_catS (ds := ((rows5.take 4).map res5).flatten) (ev_var (i := 6) rfl dv6) (ev_lstX (ex_cons h4 (ex_cons ev_int (ex_cons ev_int ex_nil))) (by simp)) (by decide)).to rfl) ea_nil)) ?_) g3.s trivial fun v d G4 H4 g4 _ dv e => ?_
    · refine .inr ⟨false, _, rfl, by decide, fun e he => ?_⟩
      obtain ⟨r, hr, he⟩ := List.mem_flatten.mp he
      obtain ⟨q, hq, rfl⟩ := List.mem_map.mp hr
      obtain ⟨_, _, _, _, f5, f6⟩ := five q hq
      simp only [res5, List.mem_cons, List.not_mem_nil, or_false] at he
      rcases he with rfl | rfl | rfl
      · exact same_bs 0 q.1 (by omega) fun l hl => by
          have := (mem_shortOf.mp (f5 l hl)).1
          omega
      · exact .inl (.inr ⟨_, rfl⟩)
      · exact .inl (.inr ⟨_, rfl⟩)
    · subst e
      exact k v G4 H4 (g.trans (g3.trans g4)) dv
end
end Mk
/-! ## MkHead -/
set_option autoImplicit true
set_option Elab.async false
set_option linter.all false
set_option maxRecDepth 100000
set_option maxHeartbeats 0
namespace Mk
open PySem PySem.Spec PyProof.Rows L2
abbrev Row0 : PySem.W.OpenRow := PySem.W.OpenLaw.row PySem.Challenge.rw_moredone_k59_whole_asked_till_one_is_lef
abbrev hk : PySem.W.Hook := He.hookX 5 fa fn [] [] ex
def ob (s : PySem.W.SharedT) : He.AlX := He.obsX 5 fa fn [] [] ex (HandSHeadRun.getT s)
theorem ob_eq (s : PySem.W.SharedT) : ob s = hk.obs s.abs := He.obsX_eq (HandSHeadRun.getT_eq s)
def loose1 : List Str := ["_wall", "RuleError", "NoName", "Gainsaid", "tupled", "begun", "is_part", "in_order", "least_of", "ALWAYS", "base_of", "does", "step", "short_logs", "Finder", "parts_in", "open_logs", "sure_by", "shows", "undone_logs", "fewest_cover", "paper"]
def loose2 : List Str := ["_law_box", "_law_take", "_law_cells", "_law_of", "_law_pick", "_law_same", "_law_names", "_law_lies", "_law_sorted", "_law_least", "_law_event_row", "_law_some_rows", "_law_done", "_law_within", "_law_way_right", "_law_again", "_law_paper_right", "_law_asked_right", "_law_by_hand_right", "_law_right"]
theorem run (w : World) : HandSHeadRun.RunEq Row0 (PySem.W.view Row0.prog [49]) hk ob 4000 (loose1 ++ loose2) w := by
  intro os
  kernel_rfl
end Mk
/-! ## MkEnd -/
set_option autoImplicit true
set_option Elab.async false
set_option linter.all false
set_option maxRecDepth 100000
set_option maxHeartbeats 0
namespace Mk
open PySem PySem.Spec PyProof.Rows L2 MkM
theorem facts {P : Program} {w : World} {K : PySem.W.Frag} {h : Heap} {mg : Str → Option Value} {f : Addr} (X : K.In h) (G : h.Ns mainGlobals mg) (hfa : mg ("law" : Str) = some (.ref f)) (c : He.SaysD fa fn K) (e : ex K = true) :
    ∃ fd : FuncData, (∀ (s : Shared) (v : Value), BindsTo s fd ⟨[v], []⟩ [("_law_script", v)]) ∧ ∀ base : Heap, K.In base → base.Ns mainGlobals mg → FnOk P w K mg base CX0 23 f fd ["_law_script"] (spLaw K) := by
  have T := txt_of X G c e
  have e2 := hfa.symm.trans T.g_law
  cases e2
  obtain ⟨fd, F⟩ := T.f_law
  have b := FunD.bindsA (ps := ["_law_script"]) F fun _ _ _ _ _ _ us hl => match us, hl with | [_], _ => rfl
  exact ⟨fd, fun s v => b s [v] rfl, fun base _ _ => fnOk_of F sc_law (spP_len fun _ => rfl) (ok_law T (ok_l_by_hand_right T))⟩
theorem law_sp {K : PySem.W.Frag} {H : Hp} {a : Addr} {ns : List Int} (hl : ns.length ≤ 63) (hS : SqL K H a (ns.map V.int)) : spLaw K [.ref a] H (fun v _ => v = .bl true) fun _ _ _ => False :=
  ⟨ns, H, Same.refl H, .cons (.lst hS ints_dpa) .nil, by show ns.length ≤ 1000; omega, fun v G1 H1 _ dv => dp_bool dv⟩
end Mk
open PySem PySem.W PySem.Calls PyProof.Rows
theorem PySem.Challenge.cw_moredone_k59_whole_asked_till_one_is_lef_holds : PySem.Challenge.rw_moredone_k59_whole_asked_till_one_is_lef.Holds := by
  w_on; o_law
  refine HandSHeadRun.head_any (r := Mk.Row0) (q := view Mk.Row0.prog [49]) (H := Mk.hk) (ob := Mk.ob) (M := 4000) (loose := Mk.loose1 ++ Mk.loose2) (d := HandSHeadRun.topDef Mk.Row0.prog 49) (kwd := []) Mk.ob_eq
    (by kernel_rfl) (fun s => by kernel_rfl) Mk.run (by kernel_rfl) (by kernel_rfl) (by kernel_rfl) (by rfl) (by first | assumption | decide +kernel) (by decide +kernel) ⟨rfl, rfl, rfl, rfl, rfl, by decide +kernel⟩ ?hw ?hc
  case hw => w_witness2
  case hc =>
    refine L2.walk_ofE (l := PySem.Challenge.rw_moredone_k59_whole_asked_till_one_is_lef) (n := 63) (k := 23) (x := "_law_script") (CX := L2.CX0) rfl (by decide) (by kernel_rfl) ⟨rfl, by decide, by decide⟩ ?F (fun _ _ _ _ z => z)
    intro w mg fa h Y G hmg0
    obtain ⟨K, KX, c⟩ := Y
    have hmg : mg ("law" : PySem.Str) = some (.ref fa) := by
      have e : (HandSHeadRun.topDef Mk.Row0.prog 49).name = ("law" : PySem.Str) := by kernel_rfl
      rw [← e]
      exact hmg0
    obtain ⟨fd, hb, hF⟩ := Mk.facts (P := (PySem.Challenge.rw_moredone_k59_whole_asked_till_one_is_lef).prog) (w := w) KX G hmg c.t.d c.more
    exact ⟨K, fd, Mk.spLaw K, KX, hb, fun H a ns hl _ hS => Mk.law_sp hl hS, hF⟩
