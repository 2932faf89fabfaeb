import PyProof.Rows.All
import Wide.All
import OpenK.AllK
import Wide.FinOn
import HandS.ForMost
import HandS.ForExc
import HandS.Walk
import HandS.Zip
import HandS.Strs
import HandS.TupAny
import HandS.NoneIn
import HandS.Style
import HandS.IsInst
import HandS.RevRange
import HandS.Conv
import KE.KExcSuper
import KE.GoesEnum
import PySem.Challenge.RW_onesession_k04_whole_words_renamed
import HandS.Codes
import KE.RegKSuper
set_option Elab.async false
set_option linter.all false
set_option maxRecDepth 100000
set_option maxHeartbeats 8000000
/-! K1: the plain mathematics of expressions over words and slots (no program in sight). -/
namespace K4
/-- an expression -/
inductive Ex (α : Type) where
  | word (w : α)
  | slot (s : α)
  | map (row : List α) (e : Ex α)
  | pair (sq : List (List α)) (e f : Ex α)

section
variable {α β : Type}
def Ex.size : Ex α → Nat
  | .word _ => 1
  | .slot _ => 1
  | .map _ e => 1 + e.size
  | .pair _ e f => 1 + e.size + f.size
def Ex.deep : Ex α → Nat
  | .word _ => 1
  | .slot _ => 1
  | .map _ e => 1 + e.deep
  | .pair _ e f => 1 + max e.deep f.deep
/-- the slots, from the left -/
def Ex.slots : Ex α → List α
  | .word _ => []
  | .slot s => [s]
  | .map _ e => e.slots
  | .pair _ e f => e.slots ++ f.slots
/-- other words (f), other slots (h) -/
def Ex.ren (f h : α → β) : Ex α → Ex β
  | .word w => .word (f w)
  | .slot s => .slot (h s)
  | .map row e => .map (row.map f) (e.ren f h)
  | .pair sq e g => .pair (sq.map fun r => r.map f) (e.ren f h) (g.ren f h)
theorem Ex.size_pos : ∀ e : Ex α, 0 < e.size
  | .word _ => Nat.one_pos
  | .slot _ => Nat.one_pos
  | .map _ _ => by unfold size; omega
  | .pair _ _ _ => by unfold size; omega
theorem Ex.deep_pos : ∀ e : Ex α, 0 < e.deep
  | .word _ => Nat.one_pos
  | .slot _ => Nat.one_pos
  | .map _ _ => by unfold deep; omega
  | .pair _ _ _ => by unfold deep; omega
theorem ren_size (f h : α → β) : ∀ e : Ex α, (e.ren f h).size = e.size
  | .word _ => rfl
  | .slot _ => rfl
  | .map _ e => by simp only [Ex.ren, Ex.size, ren_size f h e]
  | .pair _ e g => by simp only [Ex.ren, Ex.size, ren_size f h e, ren_size f h g]
theorem ren_deep (f h : α → β) : ∀ e : Ex α, (e.ren f h).deep = e.deep
  | .word _ => rfl
  | .slot _ => rfl
  | .map _ e => by simp only [Ex.ren, Ex.deep, ren_deep f h e]
  | .pair _ e g => by simp only [Ex.ren, Ex.deep, ren_deep f h e, ren_deep f h g]
theorem ren_slots (f h : α → β) : ∀ e : Ex α, (e.ren f h).slots = e.slots.map h
  | .word _ => rfl
  | .slot _ => rfl
  | .map _ e => by simp only [Ex.ren, Ex.slots, ren_slots f h e]
  | .pair _ e g => by simp only [Ex.ren, Ex.slots, ren_slots f h e, ren_slots f h g, List.map_append]
/-- what tells apart on a list -/
def InjOn (f : α → β) (l : List α) : Prop := ∀ x ∈ l, ∀ y ∈ l, f x = f y → x = y
theorem InjOn.mono {f : α → β} {l m : List α} (h : InjOn f l) (s : ∀ x ∈ m, x ∈ l) : InjOn f m := fun x hx y hy e => h x (s x hx) y (s y hy) e
theorem InjOn.tail {f : α → β} {a : α} {l : List α} (h : InjOn f (a :: l)) : InjOn f l := h.mono fun _ hx => List.mem_cons_of_mem _ hx
end

section
variable {α β : Type} [DecidableEq α] [DecidableEq β]
/-- the first place of x -/
def idx : List α → α → Option Nat
  | [], _ => none
  | y :: r, x => if y = x then some 0 else (idx r x).map (· + 1)
theorem idx_some : ∀ {l : List α} {x : α} {i : Nat}, idx l x = some i → l[i]? = some x ∧ ∀ m, m < i → l[m]? ≠ some x
  | [], _, _, h => by simp [idx] at h
  | y :: r, x, i, h => by
    unfold idx at h
    by_cases e : y = x
    · rw [if_pos e] at h
      obtain rfl : 0 = i := Option.some.inj h
      subst e
      exact ⟨rfl, fun m hm => absurd hm (Nat.not_lt_zero _)⟩
    · rw [if_neg e] at h
      obtain ⟨j, hj, rfl⟩ := Option.map_eq_some_iff.mp h
      obtain ⟨h1, h2⟩ := idx_some hj
      refine ⟨by simpa using h1, fun m hm => ?_⟩
      cases m with
      | zero => simpa using e
      | succ m => simpa using h2 m (by omega)
theorem idx_lt {l : List α} {x : α} {i : Nat} (h : idx l x = some i) : i < l.length := (List.getElem?_eq_some_iff.mp (idx_some h).1).1
theorem idx_mem : ∀ {l : List α} {x : α}, x ∈ l → ∃ i, idx l x = some i
  | y :: r, x, h => by
    unfold idx
    by_cases e : y = x
    · exact ⟨0, if_pos e⟩
    · rw [if_neg e]
      obtain ⟨i, hi⟩ := idx_mem (l := r) (by
        rcases List.mem_cons.mp h with z | z
        · exact absurd z.symm e
        · exact z)
      exact ⟨i + 1, by rw [hi]; rfl⟩
theorem idx_ren {f : α → β} : ∀ {l : List α} {x : α}, InjOn f l → x ∈ l → idx (l.map f) (f x) = idx l x
  | y :: r, x, hf, hx => by
    show (if f y = f x then some 0 else (idx (r.map f) (f x)).map (· + 1)) = (if y = x then some 0 else (idx r x).map (· + 1))
    by_cases e : y = x
    · rw [if_pos e, if_pos (by rw [e])]
    · have e' : ¬ f y = f x := fun z => e (hf y (List.mem_cons_self ..) x hx z)
      have hx' : x ∈ r := by
        rcases List.mem_cons.mp hx with z | z
        · exact absurd z.symm e
        · exact z
      rw [if_neg e, if_neg e', idx_ren hf.tail hx']

/-- the given word of a slot -/
def word : List (α × α) → α → Option α
  | [], _ => none
  | (n, w) :: r, s => if n = s then some w else word r s
/-- the value with given words, where there is one -/
def ev (ws : List α) (g : List (α × α)) : Ex α → Option α
  | .word w => some w
  | .slot s => word g s
  | .map row e => (ev ws g e).bind fun x => (idx ws x).bind fun i => row[i]?
  | .pair sq e f => (ev ws g e).bind fun x => (idx ws x).bind fun i => sq[i]?.bind fun row => (ev ws g f).bind fun y => (idx ws y).bind fun j => row[j]?
def renG (f h : α → β) (g : List (α × α)) : List (β × β) := g.map fun p => (h p.1, f p.2)
/-- given words of these slots -/
structure GOk (ws ss : List α) (g : List (α × α)) : Prop where
  wd : ∀ p ∈ g, p.2 ∈ ws
  sl : ∀ p ∈ g, p.1 ∈ ss
theorem GOk.tail {ws ss : List α} {p : α × α} {g : List (α × α)} (h : GOk ws ss (p :: g)) : GOk ws ss g := ⟨fun q hq => h.wd q (List.mem_cons_of_mem _ hq), fun q hq => h.sl q (List.mem_cons_of_mem _ hq)⟩
theorem word_mem : ∀ {g : List (α × α)} {s w : α}, word g s = some w → (s, w) ∈ g
  | (n, v) :: r, s, w, h => by
    unfold word at h
    by_cases e : n = s
    · rw [if_pos e] at h
      cases h
      subst e
      exact List.mem_cons_self ..
    · rw [if_neg e] at h
      exact List.mem_cons_of_mem _ (word_mem h)
theorem word_has : ∀ {g : List (α × α)} {s : α}, s ∈ g.map (·.1) → ∃ w, word g s = some w
  | (n, v) :: r, s, h => by
    unfold word
    by_cases e : n = s
    · exact ⟨v, if_pos e⟩
    · rw [if_neg e]
      refine word_has ?_
      rcases List.mem_cons.mp h with z | z
      · exact absurd z.symm e
      · exact z
theorem word_ren {f h : α → β} {ws ss : List α} : ∀ {g : List (α × α)} {s : α}, InjOn h ss → GOk ws ss g → s ∈ ss → word (renG f h g) (h s) = (word g s).map f
  | [], _, _, _, _ => rfl
  | (n, v) :: r, s, hh, hg, hs => by
    show (if h n = h s then some (f v) else word (renG f h r) (h s)) = (if n = s then some v else word r s).map f
    have hn : n ∈ ss := hg.sl _ (List.mem_cons_self ..)
    by_cases e : n = s
    · rw [if_pos e, if_pos (by rw [e])]
      rfl
    · rw [if_neg e, if_neg fun z => e (hh n hn s hs z)]
      exact word_ren hh hg.tail hs

/-- what check_expr asks of the words, slots and tables -/
def chk (ws ss : List α) : Ex α → Bool
  | .word w => decide (w ∈ ws)
  | .slot s => decide (s ∈ ss)
  | .map row e => (decide (row.length = ws.length) && row.all fun w => decide (w ∈ ws)) && chk ws ss e
  | .pair sq e f => (decide (sq.length = ws.length) && sq.all fun r => decide (r.length = ws.length) && r.all fun w => decide (w ∈ ws)) && (chk ws ss e && chk ws ss f)
/-- what stands in it is among them -/
def stands (ws ss : List α) : Ex α → Bool
  | .word w => decide (w ∈ ws)
  | .slot s => decide (s ∈ ss)
  | .map row e => (row.all fun w => decide (w ∈ ws)) && stands ws ss e
  | .pair sq e f => (sq.all fun r => r.all fun w => decide (w ∈ ws)) && (stands ws ss e && stands ws ss f)
/-- the tables have the right form -/
def shape (n : Nat) : Ex α → Prop
  | .word _ => True
  | .slot _ => True
  | .map row e => row.length = n ∧ shape n e
  | .pair sq e f => sq.length = n ∧ (∀ r ∈ sq, r.length = n) ∧ shape n e ∧ shape n f
theorem chk_stands {ws ss : List α} : ∀ {e : Ex α}, shape ws.length e → chk ws ss e = stands ws ss e
  | .word _, _ => rfl
  | .slot _, _ => rfl
  | .map row e, h => by
    simp only [chk, stands, chk_stands h.2, h.1, decide_true, Bool.true_and]
  | .pair sq e f, h => by
    have q : (sq.all fun r => decide (r.length = ws.length) && r.all fun w => decide (w ∈ ws)) = (sq.all fun r => r.all fun w => decide (w ∈ ws)) := by
      rw [Bool.eq_iff_iff, List.all_eq_true, List.all_eq_true]
      refine ⟨fun z r hr => ?_, fun z r hr => ?_⟩
      · have := z r hr
        simp only [Bool.and_eq_true] at this
        exact this.2
      · simp only [Bool.and_eq_true, decide_eq_true_eq]
        exact ⟨h.2.1 r hr, z r hr⟩
    simp only [chk, stands, chk_stands h.2.2.1, chk_stands h.2.2.2, h.1, decide_true, Bool.true_and, q]
theorem chk_shape {ws ss : List α} : ∀ {e : Ex α}, chk ws ss e = true → shape ws.length e
  | .word _, _ => trivial
  | .slot _, _ => trivial
  | .map row e, h => by
    simp only [chk, Bool.and_eq_true, decide_eq_true_eq] at h
    exact ⟨h.1.1, chk_shape h.2⟩
  | .pair sq e f, h => by
    simp only [chk, Bool.and_eq_true, decide_eq_true_eq, List.all_eq_true] at h
    exact ⟨h.1.1, fun r hr => (h.1.2 r hr).1, chk_shape h.2.1, chk_shape h.2.2⟩
theorem shape_ren {f h : α → β} {n : Nat} : ∀ {e : Ex α}, shape n e → shape n (e.ren f h)
  | .word _, _ => trivial
  | .slot _, _ => trivial
  | .map row e, q => ⟨by rw [List.length_map]; exact q.1, shape_ren q.2⟩
  | .pair sq e g, q => ⟨by rw [List.length_map]; exact q.1, fun r hr => by
      obtain ⟨r', hr', rfl⟩ := List.mem_map.mp hr
      rw [List.length_map]
      exact q.2.1 r' hr', shape_ren q.2.2.1, shape_ren q.2.2.2⟩
theorem stands_ren {f h : α → β} {ws ss : List α} : ∀ {e : Ex α}, stands ws ss e = true → stands (ws.map f) (ss.map h) (e.ren f h) = true
  | .word w, q => by
    simp only [stands, Ex.ren, decide_eq_true_eq] at q ⊢
    exact List.mem_map_of_mem q
  | .slot w, q => by
    simp only [stands, Ex.ren, decide_eq_true_eq] at q ⊢
    exact List.mem_map_of_mem q
  | .map row e, q => by
    simp only [stands, Ex.ren, Bool.and_eq_true, List.all_eq_true, decide_eq_true_eq] at q ⊢
    refine ⟨fun w hw => ?_, stands_ren q.2⟩
    obtain ⟨v, hv, rfl⟩ := List.mem_map.mp hw
    exact List.mem_map_of_mem (q.1 v hv)
  | .pair sq e g, q => by
    simp only [stands, Ex.ren, Bool.and_eq_true, List.all_eq_true, decide_eq_true_eq] at q ⊢
    refine ⟨fun r hr w hw => ?_, stands_ren q.2.1, stands_ren q.2.2⟩
    obtain ⟨r', hr', rfl⟩ := List.mem_map.mp hr
    obtain ⟨v, hv, rfl⟩ := List.mem_map.mp hw
    exact List.mem_map_of_mem (q.1 r' hr' v hv)
theorem chk_ren {f h : α → β} {ws ss : List α} {e : Ex α} (q : chk ws ss e = true) : chk (ws.map f) (ss.map h) (e.ren f h) = true := by
  have s := chk_shape q
  rw [chk_stands s] at q
  rw [chk_stands (by rw [List.length_map]; exact shape_ren s)]
  exact stands_ren q
theorem chk_slots {ws ss : List α} : ∀ {e : Ex α}, chk ws ss e = true → ∀ s ∈ e.slots, s ∈ ss
  | .word _, _, _, hs => by simp [Ex.slots] at hs
  | .slot _, h, s, hs => by
    simp only [chk, decide_eq_true_eq] at h
    simp only [Ex.slots, List.mem_singleton] at hs
    rw [hs]
    exact h
  | .map row e, h, s, hs => by
    simp only [chk, Bool.and_eq_true] at h
    exact chk_slots h.2 s hs
  | .pair sq e f, h, s, hs => by
    simp only [chk, Bool.and_eq_true] at h
    rcases List.mem_append.mp hs with z | z
    · exact chk_slots h.2.1 s z
    · exact chk_slots h.2.2 s z
/-- a well-formed expression with its slots given has a value among the words -/
theorem ev_some {ws ss : List α} {g : List (α × α)} (hw : ∀ p ∈ g, p.2 ∈ ws) : ∀ {e : Ex α}, chk ws ss e = true → (∀ s ∈ e.slots, s ∈ g.map (·.1)) → ∃ w, ev ws g e = some w ∧ w ∈ ws
  | .word w, h, _ => by
    simp only [chk, decide_eq_true_eq] at h
    exact ⟨w, rfl, h⟩
  | .slot s, _, hs => by
    obtain ⟨w, e⟩ := word_has (hs s (List.mem_singleton.mpr rfl))
    exact ⟨w, e, hw _ (word_mem e)⟩
  | .map row e, h, hs => by
    simp only [chk, Bool.and_eq_true, decide_eq_true_eq, List.all_eq_true] at h
    obtain ⟨x, e1, m1⟩ := ev_some hw h.2 hs
    obtain ⟨i, e2⟩ := idx_mem m1
    have hi : i < row.length := by rw [h.1.1]; exact idx_lt e2
    refine ⟨row[i], ?_, h.1.2 _ (List.getElem_mem hi)⟩
    simp only [ev, e1, Option.bind_some, e2, List.getElem?_eq_getElem hi]
  | .pair sq e f, h, hs => by
    simp only [chk, Bool.and_eq_true, decide_eq_true_eq, List.all_eq_true] at h
    obtain ⟨x, e1, m1⟩ := ev_some hw h.2.1 fun s z => hs s (List.mem_append_left _ z)
    obtain ⟨y, e3, m3⟩ := ev_some hw h.2.2 fun s z => hs s (List.mem_append_right _ z)
    obtain ⟨i, e2⟩ := idx_mem m1
    obtain ⟨j, e4⟩ := idx_mem m3
    have hi : i < sq.length := by rw [h.1.1]; exact idx_lt e2
    have hr := h.1.2 _ (List.getElem_mem hi)
    have hj : j < sq[i].length := by rw [hr.1]; exact idx_lt e4
    refine ⟨sq[i][j], ?_, hr.2 _ (List.getElem_mem hj)⟩
    simp only [ev, e1, Option.bind_some, e2, List.getElem?_eq_getElem hi, e3, e4, List.getElem?_eq_getElem hj]
/-- the value of the renamed expression is the renamed value -/
theorem ev_ren {f h : α → β} {ws ss : List α} {g : List (α × α)} (hf : InjOn f ws) (hh : InjOn h ss) (hg : GOk ws ss g) : ∀ {e : Ex α}, chk ws ss e = true → (∀ s ∈ e.slots, s ∈ g.map (·.1)) →
    ev (ws.map f) (renG f h g) (e.ren f h) = (ev ws g e).map f
  | .word w, _, _ => rfl
  | .slot s, c, _ => by
    simp only [chk, decide_eq_true_eq] at c
    exact word_ren hh hg c
  | .map row e, c, hs => by
    have c' := c
    simp only [chk, Bool.and_eq_true, decide_eq_true_eq, List.all_eq_true] at c'
    obtain ⟨x, e1, m1⟩ := ev_some hg.wd c'.2 hs
    have ih := ev_ren hf hh hg c'.2 hs
    obtain ⟨i, e2⟩ := idx_mem m1
    simp only [Ex.ren, ev, ih, e1, Option.map_some, Option.bind_some, idx_ren hf m1, e2, List.getElem?_map]
  | .pair sq e k, c, hs => by
    have c' := c
    simp only [chk, Bool.and_eq_true, decide_eq_true_eq, List.all_eq_true] at c'
    have s1 : ∀ s ∈ e.slots, s ∈ g.map (·.1) := fun s z => hs s (List.mem_append_left _ z)
    have s2 : ∀ s ∈ k.slots, s ∈ g.map (·.1) := fun s z => hs s (List.mem_append_right _ z)
    obtain ⟨x, e1, m1⟩ := ev_some hg.wd c'.2.1 s1
    obtain ⟨y, e3, m3⟩ := ev_some hg.wd c'.2.2 s2
    have ih1 := ev_ren hf hh hg c'.2.1 s1
    have ih2 := ev_ren hf hh hg c'.2.2 s2
    obtain ⟨i, e2⟩ := idx_mem m1
    obtain ⟨j, e4⟩ := idx_mem m3
    have hi : i < sq.length := by rw [c'.1.1]; exact idx_lt e2
    simp only [Ex.ren, ev, ih1, ih2, e1, e3, Option.map_some, Option.bind_some, idx_ren hf m1, idx_ren hf m3, e2, e4, List.getElem?_map, List.getElem?_eq_getElem hi]

/-! ### reads -/
def addNew (acc : List α) (s : α) : List α := if s ∈ acc then acc else acc ++ [s]
def reads (e : Ex α) : List α := e.slots.foldl addNew []
theorem addNew_mem {acc : List α} {s x : α} : x ∈ addNew acc s ↔ x ∈ acc ∨ x = s := by
  unfold addNew
  by_cases h : s ∈ acc
  · rw [if_pos h]
    exact ⟨.inl, fun z => z.elim id fun e => by rw [e]; exact h⟩
  · rw [if_neg h]
    simp
theorem fold_mem : ∀ {l acc : List α} {x : α}, x ∈ l.foldl addNew acc ↔ x ∈ acc ∨ x ∈ l
  | [], acc, x => by simp
  | s :: r, acc, x => by
    rw [List.foldl_cons, fold_mem, addNew_mem, List.mem_cons]
    constructor
    · rintro ((h | h) | h)
      · exact .inl h
      · exact .inr (.inl h)
      · exact .inr (.inr h)
    · rintro (h | h | h)
      · exact .inl (.inl h)
      · exact .inl (.inr h)
      · exact .inr h
theorem reads_mem {e : Ex α} {x : α} : x ∈ reads e ↔ x ∈ e.slots := by
  unfold reads
  rw [fold_mem]
  simp
theorem addNew_nodup {acc : List α} {s : α} (h : acc.Nodup) : (addNew acc s).Nodup := by
  unfold addNew
  by_cases q : s ∈ acc
  · rw [if_pos q]
    exact h
  · rw [if_neg q]
    refine List.nodup_append.mpr ⟨h, List.nodup_cons.mpr ⟨List.not_mem_nil, List.nodup_nil⟩, fun a ha b hb => ?_⟩
    obtain rfl := List.mem_singleton.mp hb
    exact fun e => q (e ▸ ha)
theorem fold_nodup : ∀ {l acc : List α}, acc.Nodup → (l.foldl addNew acc).Nodup
  | [], _, h => h
  | s :: r, acc, h => fold_nodup (l := r) (acc := addNew acc s) (addNew_nodup h)
theorem reads_nodup (e : Ex α) : (reads e).Nodup := fold_nodup List.nodup_nil
theorem addNew_ren {h : α → β} {ss acc : List α} {s : α} (hh : InjOn h ss) (ha : ∀ x ∈ acc, x ∈ ss) (hs : s ∈ ss) : addNew (acc.map h) (h s) = (addNew acc s).map h := by
  unfold addNew
  by_cases q : s ∈ acc
  · rw [if_pos q, if_pos (List.mem_map_of_mem q)]
  · have q' : ¬ h s ∈ acc.map h := fun z => by
      obtain ⟨x, hx, e⟩ := List.mem_map.mp z
      exact q (hh x (ha x hx) s hs e ▸ hx)
    rw [if_neg q, if_neg q', List.map_append]
    rfl
theorem fold_ren {h : α → β} {ss : List α} (hh : InjOn h ss) : ∀ {l acc : List α}, (∀ x ∈ acc, x ∈ ss) → (∀ x ∈ l, x ∈ ss) → (l.map h).foldl addNew (acc.map h) = (l.foldl addNew acc).map h
  | [], _, _, _ => rfl
  | s :: r, acc, ha, hl => by
    have hs : s ∈ ss := hl s (List.mem_cons_self ..)
    rw [List.map_cons, List.foldl_cons, List.foldl_cons, addNew_ren hh ha hs]
    refine fold_ren hh (fun x hx => ?_) fun x hx => hl x (List.mem_cons_of_mem _ hx)
    rcases addNew_mem.mp hx with z | z
    · exact ha x z
    · rw [z]
      exact hs
theorem reads_ren {f h : α → β} {ws ss : List α} {e : Ex α} (hh : InjOn h ss) (c : chk ws ss e = true) : reads (e.ren f h) = (reads e).map h := by
  unfold reads
  rw [ren_slots]
  exact fold_ren hh (acc := []) (fun _ z => absurd z List.not_mem_nil) (chk_slots c)

/-! ### all given words -/
def gRow (ws : List α) (rows : List (List (α × α))) (s : α) : List (List (α × α)) := rows.flatMap fun row => ws.map fun w => row ++ [(s, w)]
def allG (ws ss : List α) : List (List (α × α)) := ss.foldl (gRow ws) [[]]
theorem gRow_ren {f h : α → β} {ws : List α} {rows : List (List (α × α))} {s : α} : gRow (ws.map f) (rows.map (renG f h)) (h s) = (gRow ws rows s).map (renG f h) := by
  unfold gRow renG
  induction rows with
  | nil => rfl
  | cons r t ih =>
    rw [List.map_cons, List.flatMap_cons, List.flatMap_cons, List.map_append, ih]
    congr 1
    rw [List.map_map, List.map_map]
    apply List.map_congr_left
    intro w _
    simp
theorem allFold_ren {f h : α → β} {ws : List α} : ∀ {ss : List α} {rows : List (List (α × α))}, (ss.map h).foldl (gRow (ws.map f)) (rows.map (renG f h)) = (ss.foldl (gRow ws) rows).map (renG f h)
  | [], _ => rfl
  | s :: r, rows => by
    rw [List.map_cons, List.foldl_cons, List.foldl_cons, gRow_ren]
    exact allFold_ren
theorem allG_ren {f h : α → β} {ws ss : List α} : allG (ws.map f) (ss.map h) = (allG ws ss).map (renG f h) := allFold_ren (rows := [[]])
theorem gRow_mem {ws : List α} {rows : List (List (α × α))} {s : α} {g : List (α × α)} : g ∈ gRow ws rows s ↔ ∃ r ∈ rows, ∃ w ∈ ws, g = r ++ [(s, w)] := by
  unfold gRow
  simp only [List.mem_flatMap, List.mem_map]
  constructor
  · rintro ⟨r, hr, w, hw, e⟩
    exact ⟨r, hr, w, hw, e.symm⟩
  · rintro ⟨r, hr, w, hw, e⟩
    exact ⟨r, hr, w, hw, e.symm⟩
theorem allFold_mem {ws : List α} : ∀ {ss : List α} {rows : List (List (α × α))} {pre : List α}, (∀ r ∈ rows, r.map (·.1) = pre ∧ ∀ p ∈ r, p.2 ∈ ws) → ∀ g ∈ ss.foldl (gRow ws) rows, g.map (·.1) = pre ++ ss ∧ ∀ p ∈ g, p.2 ∈ ws
  | [], _, pre, h, g, hg => by
    rw [List.append_nil]
    exact h g hg
  | s :: r, rows, pre, h, g, hg => by
    have q := allFold_mem (ss := r) (rows := gRow ws rows s) (pre := pre ++ [s]) (fun t ht => by
      obtain ⟨r', hr', w, hw, rfl⟩ := gRow_mem.mp ht
      obtain ⟨h1, h2⟩ := h r' hr'
      refine ⟨by rw [List.map_append, h1]; rfl, fun p hp => ?_⟩
      rcases List.mem_append.mp hp with z | z
      · exact h2 p z
      · rw [List.mem_singleton.mp z]
        exact hw) g hg
    rw [List.append_assoc] at q
    exact q
theorem allG_mem {ws ss : List α} {g : List (α × α)} (h : g ∈ allG ws ss) : g.map (·.1) = ss ∧ ∀ p ∈ g, p.2 ∈ ws := by
  have q := allFold_mem (ws := ws) (ss := ss) (rows := [[]]) (pre := []) (fun r hr => by
    rw [List.mem_singleton.mp hr]
    exact ⟨rfl, fun _ z => absurd z List.not_mem_nil⟩) g h
  exact q
theorem gRow_length (ws : List α) (rows : List (List (α × α))) (s : α) : (gRow ws rows s).length = rows.length * ws.length := by
  unfold gRow
  induction rows with
  | nil => simp
  | cons r t ih => rw [List.flatMap_cons, List.length_append, List.length_map, ih, List.length_cons, Nat.succ_mul, Nat.add_comm]
theorem allFold_length (ws : List α) : ∀ (ss : List α) (rows : List (List (α × α))), (ss.foldl (gRow ws) rows).length = rows.length * ws.length ^ ss.length
  | [], rows => by simp
  | s :: r, rows => by
    rw [List.foldl_cons, allFold_length ws r, gRow_length, List.length_cons, Nat.pow_succ, Nat.mul_assoc, Nat.mul_comm ws.length]
theorem allG_length (ws ss : List α) : (allG ws ss).length = ws.length ^ ss.length := by
  unfold allG
  rw [allFold_length]
  simp

/-! ### matters, first_unlike -/
/-- the words given, but another one at a place -/
def putAt (g : List (α × α)) (i : Nat) (p : α × α) : List (α × α) := g.take i ++ [p] ++ g.drop (i + 1)
def differs (ws : List α) (e : Ex α) (ss : List α) (i : Nat) (s : α) : Bool := (allG ws ss).any fun g => ws.any fun w => decide (ev ws (putAt g i (s, w)) e ≠ ev ws g e)
/-- the i-th of ss, if it matters -/
def mattersIn (ws : List α) (e : Ex α) (ss : List α) : List (Nat × α) → List α
  | [] => []
  | (i, s) :: r => if differs ws e ss i s = true then s :: mattersIn ws e ss r else mattersIn ws e ss r
def count : Nat → List α → List (Nat × α)
  | _, [] => []
  | n, s :: r => (n, s) :: count (n + 1) r
def matters (ws : List α) (e : Ex α) : List α := mattersIn ws e (reads e) (count 0 (reads e))
def further (e o : Ex α) : List α := (reads o).filter fun s => !decide (s ∈ reads e)
def unlike (ws : List α) (e o : Ex α) (g : List (α × α)) : Bool := decide (ev ws g e ≠ ev ws g o)
def firstUnlike (ws : List α) (e o : Ex α) : Option (List (α × α)) := (allG ws (reads e ++ further e o)).find? (unlike ws e o)
theorem count_length : ∀ (n : Nat) (l : List α), (count n l).length = l.length
  | _, [] => rfl
  | n, _ :: r => by
    show (count (n + 1) r).length + 1 = r.length + 1
    rw [count_length]
theorem count_get : ∀ (n : Nat) (l : List α) (i : Nat), (count n l)[i]? = l[i]?.map fun s => (n + i, s)
  | _, [], _ => by simp [count]
  | n, s :: r, 0 => rfl
  | n, s :: r, i + 1 => by
    show (count (n + 1) r)[i]? = (r[i]?).map _
    rw [count_get]
    congr 1
    funext x
    rw [Nat.add_right_comm, Nat.add_assoc]
theorem count_map (h : α → β) : ∀ (n : Nat) (l : List α), count n (l.map h) = (count n l).map fun p => (p.1, h p.2)
  | _, [] => rfl
  | n, s :: r => by
    rw [List.map_cons]
    show (n, h s) :: count (n + 1) (r.map h) = (n, h s) :: (count (n + 1) r).map _
    rw [count_map]
theorem mattersIn_append (ws : List α) (e : Ex α) (ss : List α) : ∀ (l m : List (Nat × α)), mattersIn ws e ss (l ++ m) = mattersIn ws e ss l ++ mattersIn ws e ss m
  | [], _ => rfl
  | (i, s) :: r, m => by
    show (if differs ws e ss i s = true then s :: mattersIn ws e ss (r ++ m) else mattersIn ws e ss (r ++ m)) = (if differs ws e ss i s = true then s :: mattersIn ws e ss r else mattersIn ws e ss r) ++ mattersIn ws e ss m
    rw [mattersIn_append ws e ss r m]
    split <;> rfl
theorem mattersIn_length (ws : List α) (e : Ex α) (ss : List α) : ∀ l : List (Nat × α), (mattersIn ws e ss l).length ≤ l.length
  | [] => Nat.le_refl _
  | (i, s) :: r => by
    have ih := mattersIn_length ws e ss r
    show (if differs ws e ss i s = true then s :: mattersIn ws e ss r else mattersIn ws e ss r).length ≤ r.length + 1
    split
    · exact Nat.succ_le_succ ih
    · exact Nat.le_succ_of_le ih
theorem mattersIn_mem {ws : List α} {e : Ex α} {ss : List α} {x : α} : ∀ {l : List (Nat × α)}, x ∈ mattersIn ws e ss l → x ∈ l.map (·.2)
  | (i, s) :: r, h => by
    have h' : x ∈ (if differs ws e ss i s = true then s :: mattersIn ws e ss r else mattersIn ws e ss r) := h
    rw [List.map_cons, List.mem_cons]
    split at h'
    · rcases List.mem_cons.mp h' with z | z
      · exact .inl z
      · exact .inr (mattersIn_mem z)
    · exact .inr (mattersIn_mem h')
theorem count_snd : ∀ (n : Nat) (l : List α), (count n l).map (·.2) = l
  | _, [] => rfl
  | n, s :: r => by
    show s :: (count (n + 1) r).map (·.2) = s :: r
    rw [count_snd]
theorem matters_mem {ws : List α} {e : Ex α} {x : α} (h : x ∈ matters ws e) : x ∈ reads e := by
  have q := mattersIn_mem h
  rw [count_snd] at q
  exact q
theorem putAt_fst {g : List (α × α)} {ss : List α} {i : Nat} {s w : α} (hg : g.map (·.1) = ss) (hs : ss[i]? = some s) : (putAt g i (s, w)).map (·.1) = ss := by
  unfold putAt
  subst hg
  rw [List.map_append, List.map_append, List.map_take, List.map_drop]
  obtain ⟨h1, h2⟩ := List.getElem?_eq_some_iff.mp hs
  show (g.map (·.1)).take i ++ [s] ++ (g.map (·.1)).drop (i + 1) = g.map (·.1)
  rw [← h2, List.append_assoc, List.singleton_append, ← List.drop_eq_getElem_cons h1, List.take_append_drop]
theorem putAt_wd {g : List (α × α)} {ws : List α} {i : Nat} {s w : α} (hg : ∀ p ∈ g, p.2 ∈ ws) (hw : w ∈ ws) : ∀ p ∈ putAt g i (s, w), p.2 ∈ ws := fun p hp => by
  unfold putAt at hp
  rcases List.mem_append.mp hp with z | z
  · rcases List.mem_append.mp z with y | y
    · exact hg p (List.mem_of_mem_take y)
    · rw [List.mem_singleton.mp y]
      exact hw
  · exact hg p (List.mem_of_mem_drop z)
theorem putAt_ren {f h : α → β} {g : List (α × α)} {i : Nat} {s w : α} : putAt (renG f h g) i (h s, f w) = renG f h (putAt g i (s, w)) := by
  unfold putAt renG
  rw [List.map_append, List.map_append, List.map_take, List.map_drop]
  rfl
/-- from the keys of given words -/
theorem gok_of {ws ss rs : List α} {g : List (α × α)} (h1 : g.map (·.1) = rs) (h2 : ∀ p ∈ g, p.2 ∈ ws) (h3 : ∀ s ∈ rs, s ∈ ss) : GOk ws ss g :=
  ⟨h2, fun p hp => h3 p.1 (by rw [← h1]; exact List.mem_map_of_mem hp)⟩
theorem ne_ren {f : α → β} {ws : List α} (hf : InjOn f ws) {a b : Option α} {x y : α} (ha : a = some x) (hb : b = some y) (hx : x ∈ ws) (hy : y ∈ ws) : decide (a.map f ≠ b.map f) = decide (a ≠ b) := by
  subst ha hb
  by_cases e : x = y
  · subst e
    simp
  · have e' : ¬ f x = f y := fun z => e (hf x hx y hy z)
    simp [e, e']
theorem any_congr' {γ : Type} {l : List γ} {p q : γ → Bool} (h : ∀ x ∈ l, p x = q x) : l.any p = l.any q := by
  induction l with
  | nil => rfl
  | cons a r ih => rw [List.any_cons, List.any_cons, h a (List.mem_cons_self ..), ih fun x hx => h x (List.mem_cons_of_mem _ hx)]
theorem differs_ren {f h : α → β} {ws ss : List α} {e : Ex α} {i : Nat} {s : α} (hf : InjOn f ws) (hh : InjOn h ss) (c : chk ws ss e = true) (hs : (reads e)[i]? = some s) :
    differs (ws.map f) (e.ren f h) ((reads e).map h) i (h s) = differs ws e (reads e) i s := by
  unfold differs
  rw [allG_ren, List.any_map]
  have rs : ∀ x ∈ reads e, x ∈ ss := fun x hx => chk_slots c x (reads_mem.mp hx)
  refine any_congr' fun g hg => ?_
  obtain ⟨g1, g2⟩ := allG_mem hg
  show ((ws.map f).any fun w => decide (ev (ws.map f) (putAt (renG f h g) i (h s, w)) (e.ren f h) ≠ ev (ws.map f) (renG f h g) (e.ren f h))) = _
  rw [List.any_map]
  refine any_congr' fun w hw => ?_
  show decide (ev (ws.map f) (putAt (renG f h g) i (h s, f w)) (e.ren f h) ≠ ev (ws.map f) (renG f h g) (e.ren f h)) = _
  have k1 := putAt_fst (w := w) g1 hs
  have k2 := putAt_wd (i := i) (s := s) g2 hw
  have sl1 : ∀ x ∈ e.slots, x ∈ g.map (·.1) := fun x hx => by rw [g1]; exact reads_mem.mpr hx
  have sl2 : ∀ x ∈ e.slots, x ∈ (putAt g i (s, w)).map (·.1) := fun x hx => by rw [k1]; exact reads_mem.mpr hx
  rw [putAt_ren, ev_ren hf hh (gok_of k1 k2 rs) c sl2, ev_ren hf hh (gok_of g1 g2 rs) c sl1]
  obtain ⟨x, e1, m1⟩ := ev_some k2 c sl2
  obtain ⟨y, e2, m2⟩ := ev_some g2 c sl1
  exact ne_ren hf e1 e2 m1 m2
theorem mattersIn_ren {f h : α → β} {ws ss : List α} {e : Ex α} (hf : InjOn f ws) (hh : InjOn h ss) (c : chk ws ss e = true) : ∀ {l : List (Nat × α)}, (∀ p ∈ l, (reads e)[p.1]? = some p.2) →
    mattersIn (ws.map f) (e.ren f h) ((reads e).map h) (l.map fun p => (p.1, h p.2)) = (mattersIn ws e (reads e) l).map h
  | [], _ => rfl
  | (i, s) :: r, hl => by
    have ih := mattersIn_ren hf hh c (l := r) fun p hp => hl p (List.mem_cons_of_mem _ hp)
    rw [List.map_cons]
    show (if differs (ws.map f) (e.ren f h) ((reads e).map h) i (h s) = true then h s :: _ else _) = (if differs ws e (reads e) i s = true then s :: _ else _).map h
    rw [differs_ren hf hh c (hl (i, s) (List.mem_cons_self ..)), ih]
    split <;> rfl
theorem matters_ren {f h : α → β} {ws ss : List α} {e : Ex α} (hf : InjOn f ws) (hh : InjOn h ss) (c : chk ws ss e = true) : matters (ws.map f) (e.ren f h) = (matters ws e).map h := by
  unfold matters
  rw [reads_ren hh c, count_map]
  refine mattersIn_ren hf hh c fun p hp => ?_
  obtain ⟨i, hi, e1⟩ := List.getElem_of_mem hp
  have q := List.getElem?_eq_getElem hi
  rw [e1, count_get] at q
  obtain ⟨s, hs, e2⟩ := Option.map_eq_some_iff.mp q
  rw [← e2]
  show (reads e)[0 + i]? = some s
  rw [Nat.zero_add]
  exact hs
theorem mem_ren {h : α → β} {ss l : List α} {x : α} (hh : InjOn h ss) (hl : ∀ y ∈ l, y ∈ ss) (hx : x ∈ ss) : decide (h x ∈ l.map h) = decide (x ∈ l) := by
  by_cases q : x ∈ l
  · rw [decide_eq_true q, decide_eq_true (List.mem_map_of_mem q)]
  · rw [decide_eq_false q, decide_eq_false fun z => ?_]
    obtain ⟨y, hy, e⟩ := List.mem_map.mp z
    exact q (hh y (hl y hy) x hx e ▸ hy)
theorem filter_ren {h : α → β} {ss l : List α} (hh : InjOn h ss) (hl : ∀ y ∈ l, y ∈ ss) : ∀ {m : List α}, (∀ y ∈ m, y ∈ ss) → (m.map h).filter (fun s => !decide (s ∈ l.map h)) = (m.filter fun s => !decide (s ∈ l)).map h
  | [], _ => rfl
  | x :: r, hm => by
    have ih := filter_ren hh hl (m := r) fun y hy => hm y (List.mem_cons_of_mem _ hy)
    rw [List.map_cons, List.filter_cons, List.filter_cons, mem_ren hh hl (hm x (List.mem_cons_self ..)), ih]
    split <;> rfl
theorem find_ren {γ δ : Type} {k : γ → δ} {p : γ → Bool} {q : δ → Bool} : ∀ {l : List γ}, (∀ x ∈ l, q (k x) = p x) → (l.map k).find? q = (l.find? p).map k
  | [], _ => rfl
  | x :: r, h => by
    rw [List.map_cons, List.find?_cons, List.find?_cons, h x (List.mem_cons_self ..)]
    cases p x with
    | true => rfl
    | false => exact find_ren fun y hy => h y (List.mem_cons_of_mem _ hy)
theorem further_mem {e o : Ex α} {x : α} (h : x ∈ further e o) : x ∈ reads o := (List.mem_filter.mp h).1
theorem both_slots {e o : Ex α} {x : α} (h : x ∈ o.slots) : x ∈ reads e ++ further e o := by
  by_cases q : x ∈ reads e
  · exact List.mem_append_left _ q
  · refine List.mem_append_right _ (List.mem_filter.mpr ⟨reads_mem.mpr h, ?_⟩)
    rw [decide_eq_false q]
    rfl
theorem firstUnlike_ren {f h : α → β} {ws ss : List α} {e o : Ex α} (hf : InjOn f ws) (hh : InjOn h ss) (c : chk ws ss e = true) (d : chk ws ss o = true) :
    firstUnlike (ws.map f) (e.ren f h) (o.ren f h) = (firstUnlike ws e o).map (renG f h) := by
  have re : ∀ x ∈ reads e, x ∈ ss := fun x hx => chk_slots c x (reads_mem.mp hx)
  have ro : ∀ x ∈ reads o, x ∈ ss := fun x hx => chk_slots d x (reads_mem.mp hx)
  have fr : further (e.ren f h) (o.ren f h) = (further e o).map h := by
    unfold further
    rw [reads_ren hh c, reads_ren hh d]
    exact filter_ren hh re ro
  unfold firstUnlike
  rw [fr, reads_ren hh c, ← List.map_append, allG_ren]
  refine find_ren fun g hg => ?_
  obtain ⟨g1, g2⟩ := allG_mem hg
  have rs : ∀ x ∈ reads e ++ further e o, x ∈ ss := fun x hx => (List.mem_append.mp hx).elim (re x) fun z => ro x (further_mem z)
  have sl1 : ∀ x ∈ e.slots, x ∈ g.map (·.1) := fun x hx => by rw [g1]; exact List.mem_append_left _ (reads_mem.mpr hx)
  have sl2 : ∀ x ∈ o.slots, x ∈ g.map (·.1) := fun x hx => by rw [g1]; exact both_slots hx
  have G := gok_of g1 g2 rs
  unfold unlike
  rw [ev_ren hf hh G c sl1, ev_ren hf hh G d sl2]
  obtain ⟨x, e1, m1⟩ := ev_some g2 c sl1
  obtain ⟨y, e2, m2⟩ := ev_some g2 d sl2
  exact ne_ren hf e1 e2 m1 m2

/-! ### lengths -/
theorem nodup_length : ∀ {l m : List α}, l.Nodup → (∀ x ∈ l, x ∈ m) → l.length ≤ m.length
  | [], _, _, _ => Nat.zero_le _
  | a :: r, m, h, s => by
    obtain ⟨h1, h2⟩ := List.nodup_cons.mp h
    have ih := nodup_length (l := r) (m := m.erase a) h2 fun x hx => by
      have hne : x ≠ a := fun e => h1 (e ▸ hx)
      exact (List.mem_erase_of_ne hne).mpr (s x (List.mem_cons_of_mem _ hx))
    have ha : a ∈ m := s a (List.mem_cons_self ..)
    have q := List.length_erase_of_mem ha
    have p : 0 < m.length := List.length_pos_of_mem ha
    rw [List.length_cons]
    omega
theorem reads_length {ws ss : List α} {e : Ex α} (c : chk ws ss e = true) : (reads e).length ≤ ss.length := nodup_length (reads_nodup e) fun x hx => chk_slots c x (reads_mem.mp hx)
theorem both_nodup (e o : Ex α) : (reads e ++ further e o).Nodup := by
  refine List.nodup_append.mpr ⟨reads_nodup e, (reads_nodup o).filter _, fun a ha b hb z => ?_⟩
  subst z
  have q := (List.mem_filter.mp hb).2
  rw [decide_eq_true ha] at q
  cases q
theorem both_length {ws ss : List α} {e o : Ex α} (c : chk ws ss e = true) (d : chk ws ss o = true) : (reads e ++ further e o).length ≤ ss.length :=
  nodup_length (both_nodup e o) fun x hx => (List.mem_append.mp hx).elim (fun z => chk_slots c x (reads_mem.mp z)) fun z => chk_slots d x (reads_mem.mp (further_mem z))
end
end K4
/-! K2: the text by places, what stands in the heap. -/
namespace K4
open PySem PySem.Spec PyProof.Rows L2
def topS (i : Nat) : Stmt := PySem.Challenge.pw_onesession_k04_whole_words_renamed.main.body.getD i (.Pass ⟨0, 0, 0, 0⟩)
abbrev sIsRow : Stmt := topS 6
abbrev sIsSq : Stmt := topS 7
abbrev sFits : Stmt := topS 8
abbrev sCheck : Stmt := topS 9
abbrev sWord : Stmt := topS 10
abbrev sValue : Stmt := topS 11
abbrev sReads : Stmt := topS 12
abbrev sAll : Stmt := topS 13
abbrev sDiff : Stmt := topS 14
abbrev sMat : Stmt := topS 15
abbrev sUnl : Stmt := topS 16
abbrev sPool : Stmt := topS 18
abbrev sDraw : Stmt := topS 19
abbrev sPick : Stmt := topS 20
abbrev sName : Stmt := topS 21
abbrev sNames : Stmt := topS 22
abbrev sRowOf : Stmt := topS 23
abbrev sSame : Stmt := topS 24
abbrev sTree : Stmt := topS 25
abbrev sAs : Stmt := topS 26
abbrev sGivenAs : Stmt := topS 27
abbrev sTable : Stmt := topS 28
abbrev sStands : Stmt := topS 29
abbrev sChecked : Stmt := topS 30
abbrev sLaw : Stmt := topS 31

/-! ### what stands in the heap -/
/-- what never changes: tuples, and what is known to its object -/
def fixed : HO → Bool
  | .tup _ => true
  | .frz _ _ => true
  | _ => false
/-- such things stay -/
def TK (H H' : Hp) : Prop := ∀ b o, fixed o = true → H b = some o → H' b = some o
theorem TK.refl (H : Hp) : TK H H := fun _ _ _ h => h
theorem TK.trans {H H1 H2 : Hp} (a : TK H H1) (b : TK H1 H2) : TK H H2 := fun c o f h => b c o f (a c o f h)
theorem tk_same {H H' : Hp} (s : Same H H') : TK H H' := fun b o _ h => s b o h
theorem same_new {H : Hp} {p : Addr} (h : H p = none) (o : HO) : Same H (upd H p o) := fun b u q => by rw [upd_ne (ne_of_none q h)]; exact q
theorem TK.tup {H H' : Hp} (k : TK H H') {b : Addr} {xs : List V} (h : H b = some (.tup xs)) : H' b = some (.tup xs) := k b _ rfl h
theorem TK.rd {H H' : Hp} (k : TK H H') {b : Addr} {xs : List V} (h : Rd H b (.tup xs)) : Rd H' b (.tup xs) := by
  rcases h with h | ⟨o, h⟩
  · exact .inl (k b _ rfl h)
  · exact .inr ⟨o, k b _ rfl h⟩
/-- a tuple of texts that may be read -/
abbrev Tw (H : Hp) (ws : List Str) (a : Addr) : Prop := Rd H a (.tup (ws.map V.str))
/-- a tuple of texts without a dict of its own -/
def Wd (H : Hp) (ws : List Str) (a : Addr) : Prop := ∃ o : Obj, o.dict = none ∧ H a = some (.frz o (.tup (ws.map V.str)))
theorem Wd.tw {H : Hp} {ws : List Str} {a : Addr} (h : Wd H ws a) : Tw H ws a := let ⟨o, _, e⟩ := h; .inr ⟨o, e⟩
theorem Wd.mono {H H' : Hp} (k : TK H H') {ws : List Str} {a : Addr} (h : Wd H ws a) : Wd H' ws a := let ⟨o, d, e⟩ := h; ⟨o, d, k _ _ rfl e⟩
/-- a tuple of texts stands at a -/
def Tx (H : Hp) (xs : List Str) (a : Addr) : Prop := H a = some (.tup (xs.map V.str))
theorem Tx.mono {H H' : Hp} (k : TK H H') {xs : List Str} {a : Addr} (h : Tx H xs a) : Tx H' xs a := k.tup h
theorem paired_mono {α β : Type} {F G : α → β → Prop} (h : ∀ a b, F a b → G a b) : ∀ {l : List α} {m : List β}, Paired F l m → Paired G l m
  | _, _, .nil => .nil
  | _, _, .cons r t => .cons (h _ _ r) (paired_mono h t)
/-- a value that is a tuple of texts -/
def RowV (H : Hp) (v : V) (xs : List Str) : Prop := ∃ a, v = .ref a ∧ Tx H xs a
/-- a tuple of such -/
def SqA (H : Hp) (sq : List (List Str)) (a : Addr) : Prop := ∃ vs, H a = some (.tup vs) ∧ Paired (RowV H) vs sq
theorem SqA.mono {H H' : Hp} (k : TK H H') {sq : List (List Str)} {a : Addr} (h : SqA H sq a) : SqA H' sq a := by
  obtain ⟨vs, h1, h2⟩ := h
  exact ⟨vs, k.tup h1, paired_mono (fun v xs ⟨b, e, t⟩ => ⟨b, e, t.mono k⟩) h2⟩
/-- an expression -/
def ExR (H : Hp) : V → Ex Str → Prop
  | v, .word w => ∃ a, v = .ref a ∧ H a = some (.tup [.str "word", .str w])
  | v, .slot s => ∃ a, v = .ref a ∧ H a = some (.tup [.str "slot", .str s])
  | v, .map row e => ∃ a r x, v = .ref a ∧ H a = some (.tup [.str "map", .ref r, x]) ∧ Tx H row r ∧ ExR H x e
  | v, .pair sq e f => ∃ a r x y, v = .ref a ∧ H a = some (.tup [.str "pair", .ref r, x, y]) ∧ SqA H sq r ∧ ExR H x e ∧ ExR H y f
theorem ExR.mono {H H' : Hp} (k : TK H H') : ∀ {e : Ex Str} {v : V}, ExR H v e → ExR H' v e
  | .word _, _, ⟨a, e, h⟩ => ⟨a, e, k.tup h⟩
  | .slot _, _, ⟨a, e, h⟩ => ⟨a, e, k.tup h⟩
  | .map _ e, _, ⟨a, r, x, e1, h, t, q⟩ => ⟨a, r, x, e1, k.tup h, t.mono k, ExR.mono k q⟩
  | .pair _ e f, _, ⟨a, r, x, y, e1, h, t, q, q2⟩ => ⟨a, r, x, y, e1, k.tup h, t.mono k, ExR.mono k q, ExR.mono k q2⟩
/-- a pair of texts -/
def PrV (H : Hp) (v : V) (p : Str × Str) : Prop := ∃ b, v = .ref b ∧ H b = some (.tup [.str p.1, .str p.2])
/-- given words -/
def GvR (H : Hp) (g : List (Str × Str)) (a : Addr) : Prop := ∃ vs, H a = some (.tup vs) ∧ Paired (PrV H) vs g
theorem GvR.mono {H H' : Hp} (k : TK H H') {g : List (Str × Str)} {a : Addr} (h : GvR H g a) : GvR H' g a := by
  obtain ⟨vs, h1, h2⟩ := h
  exact ⟨vs, k.tup h1, paired_mono (fun v xs ⟨b, e, t⟩ => ⟨b, e, k.tup t⟩) h2⟩
theorem paired_get {α β : Type} {F : α → β → Prop} : ∀ {l : List α} {m : List β} {i : Nat} {x : α}, Paired F l m → l[i]? = some x → ∃ y, m[i]? = some y ∧ F x y
  | _, _, _, _, .nil, h => by simp at h
  | _, _, 0, x, .cons r _, h => by
    obtain rfl := Option.some.inj h
    exact ⟨_, rfl, r⟩
  | _, _, i + 1, x, .cons _ t, h => paired_get (i := i) t h
theorem paired_length {α β : Type} {F : α → β → Prop} : ∀ {l : List α} {m : List β}, Paired F l m → l.length = m.length
  | _, _, .nil => rfl
  | _, _, .cons _ t => congrArg Nat.succ (paired_length t)
theorem get_map_str {xs : List Str} {i : Nat} {x : V} (h : (xs.map V.str)[i]? = some x) : ∃ z, xs[i]? = some z ∧ x = .str z := by
  rw [List.getElem?_map] at h
  obtain ⟨z, h1, h2⟩ := Option.map_eq_some_iff.mp h
  exact ⟨z, h1, h2.symm⟩
theorem inV_str {z : Str} : ∀ {ws : List Str}, inV (.str z) (ws.map V.str) = decide (z ∈ ws)
  | [] => by simp [inV]
  | w :: r => by
    have ih := inV_str (z := z) (ws := r)
    unfold inV at ih ⊢
    rw [List.map_cons, List.any_cons, ih]
    show ((w == z) || decide (z ∈ r)) = decide (z ∈ w :: r)
    by_cases e : w = z
    · subst e
      simp
    · have e' : ¬ z = w := fun q => e q.symm
      simp [e, e']
/-! ### rules of our own: tuple(list) as a thing that is known to its object; words.index(x) -/
section
variable {X : Cx}
theorem call_tuple_frz : CallR X (.type "tuple") (fun xs H Q => ∃ p ys, xs = [.ref p] ∧ SqL X.K H p ys ∧ ∀ (l : Addr) (o : Obj), H l = none → o.dict = none → Q (.ref l) (upd H l (.frz o (.tup ys)))) := by
  intro pins s σ H xs us Q I r h
  obtain ⟨p, ys, rfl, hq, q⟩ := h
  obtain ⟨u, rfl, rx⟩ := vals1 r
  cases rx
  obtain ⟨its, r', pl, hz⟩ := I.list hq
  have hlen := r'.length
  refine call_tuple_list pl.isList (fun h' kp => ?_) (by simp only [List.size_toArray] <;> omega)
  have I1 : Inv X pins σ H { s with heap := h' } := I.kept (t' := s.toks) kp
  have e0 : (h'.push { cls := .type "tuple", data := .seq its.toArray }).get? h'.objs.size = some { cls := .type "tuple", data := .seq its.toArray } := Heap.get?_push_size _ rfl
  have I2 : Inv X pins σ (upd H h'.objs.size (.frz { cls := .type "tuple", data := .seq its.toArray } (.tup ys))) { s with heap := h'.push { cls := .type "tuple", data := .seq its.toArray } } :=
    I1.laid (t' := s.toks) (fun b o e => Heap.get?_push_of_some _ e) (Nat.le_refl _) ⟨e0, hz, its, r', IsTup.new _ _⟩
  exact ⟨.ref h'.objs.size, _, I2, rfl, q _ _ (I1.hok.fresh (Nat.le_refl _)) rfl⟩
def rIdx (K : PySem.W.Frag) : V → List V → Hp → VK → Prop := fun x xs H Q => ∃ p, ∃ ys : List Str, ∃ z j, x = .ref p ∧ xs = [.str z] ∧ SqT K H p (ys.map V.str) ∧ ys[j]? = some z ∧ (∀ m, m < j → ys[m]? ≠ some z) ∧ Q (.int (j : Nat)) H
def tIdx (K : PySem.W.Frag) (to : TE) (t : TA) : TE := fun σ H Q => to σ H fun x H1 => (∃ (p : Addr) (ws : List Str), x = .ref p ∧ Wd H1 ws p) ∧ t σ H1 fun xs H2 => rIdx K x xs H2 Q
theorem pe_idx {o e : Expr} {to : TE} {t : TA} {apos cpos : Pos} (ho : PE X o to) (ha : PA X [e] t)
    (hbase : attributeBase o "index" X.env (eval o X.env) = eval o X.env := by rfl)
    (hfew : ((backTo cpos (starEach [e] X.env)).all (fun x => !x.1) && (backToKw cpos (keywordEach [] X.env)).all (fun x => x.1.isSome)
      && decide ([e].length + ([] : List Keyword).length + (if ([] : List Keyword).isEmpty then 0 else 1) < 30)) = true := by rfl)
    (hline : (apos.endLine == cpos.line) = true := by rfl) (hs : starEach [e] X.env = (false, eval e X.env) :: starEach [] X.env := by rfl) (hplain : (backTo cpos (starEach [] X.env)).any (·.1) = false := by rfl) :
    PE X (.Call (.Attribute o "index" apos) [e] [] cpos) (tIdx X.K to t) := by
  refine ⟨fun pins s σ H Q I h => ?_⟩
  refine wpAny_Call_method_late hbase hfew hline rfl (thn (ho.run pins s σ H _ I h) fun v s1 ⟨x, H1, I1, r1, ty, q1⟩ => ?_)
  obtain ⟨p, ws, rfl, oo, dd, hf⟩ := ty
  cases r1
  obtain ⟨g1, _, its, _, o2, g2, c2, _⟩ := I1.hok p _ hf
  have ob : ∀ a, Value.ref p = .ref a → ∃ ob, s1.heap.get? a = some ob ∧ ob.dict = none := fun a e => by
    cases e
    exact ⟨oo, g1, dd⟩
  refine ⟨"tuple", "tuple.index", PySem.F.plainAttrs_tuple, PySem.F.slot_tuple_index, PySem.F.type_tuple_index, ⟨o2, g2, c2⟩, ob, ?_⟩
  have hA := ha.run cpos pins s1 σ H1 _ I1 q1
  rw [hs] at hA ⊢
  refine Calls.callWith_builtin (by show (false || (backTo cpos (starEach [] X.env)).any (·.1)) = false; rw [hplain] <;> rfl) (Calls.evalArgs_plain ?_)
  exact thn hA fun us s2 ⟨vs, H2, I2, r2, q2⟩ => mt_tup_index pins s2 σ H2 (.ref p) vs (.ref p) us Q I2 rfl r2 q2
end
end K4
/-! K3: is_row, is_square, node_fits. -/
namespace K4
open PySem PySem.Spec PyProof.Rows L2
/-- the built-ins that the text names are no names of the module -/
structure Blt (mg : Str → Option Value) : Prop where
  isi : mg "isinstance" = none
  tup : mg "tuple" = none
  len : mg "len" = none
  rev : mg "reversed" = none
  rng : mg "range" = none
  lst : mg "list" = none
  enu : mg "enumerate" = none
  int : mg "int" = none
  abs : mg "abs" = none
  all : mg "all" = none
  zip : mg "zip" = none
  bool : mg "bool" = none
  str : mg "str" = none
theorem iteT' {c : Bool} {A B : Prop} (hc : c = true) (h : A) : if c = true then A else B := by
  rw [if_pos hc]
  exact h
theorem iteF' {c : Bool} {A B : Prop} (hc : c = false) (h : B) : if c = true then A else B := by
  rw [hc, if_neg Bool.false_ne_true]
  exact h
section
variable {P : Program} {w : World} {K : PySem.W.Frag} {mg : Str → Option Value} {base : Heap}
theorem isi_tup {a : Addr} {H : Hp} {xs : List V} (h : H a = some (.tup xs)) : ∃ b : Bool, b = true ∧ TyX K H (.ref a) (.type "tuple") ∧ PySem.W.kitOne K (.type "tuple") (.type "tuple") = some b :=
  ⟨true, rfl, .base (.tup h), kit_ty (by decide +kernel)⟩
/-! ### is_row -/
theorem scIsRow : FnScope ["value", "words", "item"] ["value", "words"] (defScope sIsRow) := ⟨rfl, rfl, rfl, by decide +kernel, rfl, by decide +kernel, by decide +kernel⟩
def rowOk (ws row : List Str) : Bool := decide (row.length = ws.length) && row.all fun w => decide (w ∈ ws)
def spIsRow : Sp := fun vs H Q _ => ∃ (a r : Addr) (ws row : List Str), vs = [.ref r, .ref a] ∧ Tw H ws a ∧ Tx H row r ∧ Q (.bl (rowOk ws row)) H
theorem ok_isRow {f : Addr} {fd : FuncData} (F : Fun K "is_row" "is_row" sIsRow f fd) (B : Blt mg) : FnOk P w K mg base CX0 1 f fd ["value", "words"] spIsRow := by
  refine F.ok scIsRow (fun vs H Q E h => ?_) (fun cdv A outer s H vs Q E hr h => ?_)
  · obtain ⟨a, r, ws, row, rfl, _⟩ := h
    rfl
  obtain ⟨a, r, ws, row, rfl, hw, hrw, q⟩ := h
  have nd := scIsRow.nd
  refine ⟨_, pss_cons (ps_if (PW.pt (pw_or (pt_not (pt_val (pe_callB call_isi rfl B.isi (by decide +kernel) (pa_cons (pv 0) (pa_cons (pe_bltn (v := .ty "tuple") rfl B.tup (by decide +kernel) rfl) pa_nil)))))
      (pw_or1 (pt_cmpR op_ne (pe_callB call_len_seq rfl B.len PySem.boot_len (pa_cons (pv 0) pa_nil)) (pe_callB call_len_seq rfl B.len PySem.boot_len (pa_cons (pv 1) pa_nil)) (nomark _))))) (pss_one (ps_ret pe_bl)) pss_nil)
    (pss_cons (ps_for PassesOwn.never rfl (pi_tup (pv 0)) (pg_name (i := 2) nd rfl (.inl rfl)) (pss_one (ps_if (pt_cmpR op_notIn_seq (pv 2) (pv 1) rfl) (pss_one (ps_ret pe_bl)) pss_nil)))
    (pss_one (ps_ret pe_bl))), ?_⟩
  obtain ⟨b, rfl, t1, t2⟩ := isi_tup (K := K) hrw
  refine ⟨_, rfl, _, _, _, _, _, rfl, .ty _, t1, t2, _, rfl, ?_⟩
  refine iteF' rfl ?_
  refine ⟨_, rfl, _, _, rfl, .inr (.of hrw), _, rfl, _, _, rfl, .inr (.inl hw), rfl, _, rfl, ?_⟩
  rw [List.length_map, List.length_map]
  refine ite2 (fun e => ?_) (fun e => ?_)
  · have e' : ¬ row.length = ws.length := fun z => by
      rw [z] at e
      simp at e
    have q' := q
    unfold rowOk at q'
    rw [decide_eq_false e'] at q'
    exact q'
  · have e' : row.length = ws.length := by
      by_cases z : row.length = ws.length
      · exact z
      · refine absurd ?_ e
        rw [decide_eq_false fun y => z (by injection y with y; omega)]
        rfl
    -- for item in value
    refine ⟨_, rfl, r, rfl, ⟨_, .of hrw⟩, for_tup (K := K) (a := r) (xs := row.map V.str) (fun i σ H' => H' = H ∧ (∃ v, σ = [some (.ref r), some (.ref a), v]) ∧ ∀ z ∈ row.take i, z ∈ ws)
      ⟨rfl, ⟨_, rfl⟩, by simp⟩ (fun i σ H' _ h => by rw [h.1]; exact .of hrw) ?_ ?_⟩
    · rintro i x σ H' hi ⟨rfl, ⟨v, rfl⟩, hp⟩
      obtain ⟨z, hz, rfl⟩ := get_map_str hi
      refine ⟨_, rfl, _, rfl, _, _, rfl, .inr (.inl hw), rfl, flat_strs ws, _, rfl, ?_⟩
      rw [inV_str]
      by_cases m : z ∈ ws
      · rw [decide_eq_true m]
        refine ⟨rfl, ⟨_, rfl⟩, fun y hy => ?_⟩
        rw [List.take_add_one, hz] at hy
        rcases List.mem_append.mp hy with k | k
        · exact hp y k
        · rw [List.mem_singleton.mp k]
          exact m
      · rw [decide_eq_false m]
        have q' := q
        unfold rowOk at q'
        have e2 : (row.all fun w => decide (w ∈ ws)) = false := by
          rw [List.all_eq_false]
          exact ⟨z, List.mem_of_getElem? hz, by simpa using m⟩
        rw [e2, Bool.and_false] at q'
        exact q'
    · rintro σ H' ⟨rfl, ⟨v, rfl⟩, hp⟩
      rw [List.length_map, List.take_length] at hp
      have q' := q
      unfold rowOk at q'
      have e2 : (row.all fun w => decide (w ∈ ws)) = true := by
        rw [List.all_eq_true]
        exact fun y hy => decide_eq_true (hp y hy)
      rw [decide_eq_true e', e2] at q'
      exact q'
/-! ### is_square -/
theorem scIsSq : FnScope ["value", "words", "row"] ["value", "words"] (defScope sIsSq) := ⟨rfl, rfl, rfl, by decide +kernel, rfl, by decide +kernel, by decide +kernel⟩
def sqOk (ws : List Str) (sq : List (List Str)) : Bool := decide (sq.length = ws.length) && sq.all fun r => rowOk ws r
def spIsSq : Sp := fun vs H Q _ => ∃ (a r : Addr) (ws : List Str) (sq : List (List Str)), vs = [.ref r, .ref a] ∧ Tw H ws a ∧ SqA H sq r ∧ Q (.bl (sqOk ws sq)) H
theorem ok_isSq {f fR : Addr} {fd fdR : FuncData} (F : Fun K "is_square" "is_square" sIsSq f fd) (B : Blt mg) (GR : FnOk P w K mg base CX0 1 fR fdR ["value", "words"] spIsRow) (bR : Binds K fdR ["value", "words"] []) (kR : PySem.W.keepIn K (.ref fR) = true) (mR : mg "is_row" = some (.ref fR)) :
    FnOk P w K mg base CX0 2 f fd ["value", "words"] spIsSq := by
  refine F.ok scIsSq (fun vs H Q E h => ?_) (fun cdv A outer s H vs Q E hr h => ?_)
  · obtain ⟨a, r, ws, row, rfl, _⟩ := h
    rfl
  obtain ⟨a, r, ws, sq, rfl, hw, hsq, q⟩ := h
  have nd := scIsSq.nd
  refine ⟨_, pss_cons (ps_if (PW.pt (pw_or (pt_not (pt_val (pe_callB call_isi rfl B.isi (by decide +kernel) (pa_cons (pv 0) (pa_cons (pe_bltn (v := .ty "tuple") rfl B.tup (by decide +kernel) rfl) pa_nil)))))
      (pw_or1 (pt_cmpR op_ne (pe_callB call_len_seq rfl B.len PySem.boot_len (pa_cons (pv 0) pa_nil)) (pe_callB call_len_seq rfl B.len PySem.boot_len (pa_cons (pv 1) pa_nil)) (nomark _))))) (pss_one (ps_ret pe_bl)) pss_nil)
    (pss_cons (ps_for PassesOwn.never rfl (pi_tup (pv 0)) (pg_name (i := 2) nd rfl (.inl rfl)) (pss_one (ps_if (pt_not (pt_val (pe_call GR hr rfl mR kR bR .nil pass0 (pa_cons (pv 2) (pa_cons (pv 1) pa_nil))))) (pss_one (ps_ret pe_bl)) pss_nil)))
    (pss_one (ps_ret pe_bl))), ?_⟩
  obtain ⟨rs, hrs, hp2⟩ := id hsq
  have hlen := paired_length hp2
  obtain ⟨b, rfl, t1, t2⟩ := isi_tup (K := K) hrs
  refine ⟨_, rfl, _, _, _, _, _, rfl, .ty _, t1, t2, _, rfl, ?_⟩
  refine iteF' rfl ?_
  refine ⟨_, rfl, _, _, rfl, .inr (.of hrs), _, rfl, _, _, rfl, .inr (.inl hw), rfl, _, rfl, ?_⟩
  rw [hlen, List.length_map]
  refine ite2 (fun e => ?_) (fun e => ?_)
  · have e' : ¬ sq.length = ws.length := fun z => by
      rw [z] at e
      simp at e
    have q' := q
    unfold sqOk at q'
    rw [decide_eq_false e'] at q'
    exact q'
  · have e' : sq.length = ws.length := by
      by_cases z : sq.length = ws.length
      · exact z
      · refine absurd ?_ e
        rw [decide_eq_false fun y => z (by injection y with y; omega)]
        rfl
    refine ⟨_, rfl, r, rfl, ⟨_, .of hrs⟩, for_tup (K := K) (a := r) (xs := rs) (fun i σ H' => H' = H ∧ (∃ v, σ = [some (.ref r), some (.ref a), v]) ∧ ∀ z ∈ sq.take i, rowOk ws z = true)
      ⟨rfl, ⟨_, rfl⟩, by simp⟩ (fun i σ H' _ h => by rw [h.1]; exact .of hrs) ?_ ?_⟩
    · rintro i x σ H' hi ⟨rfl, ⟨v, rfl⟩, hp⟩
      obtain ⟨z, hz, b, rfl, tz⟩ := paired_get hp2 hi
      refine ⟨_, rfl, _, rfl, a, b, ws, z, rfl, hw, tz, _, rfl, ?_⟩
      cases m : rowOk ws z with
      | true =>
        refine ⟨rfl, ⟨_, rfl⟩, fun y hy => ?_⟩
        rw [List.take_add_one, hz] at hy
        rcases List.mem_append.mp hy with k | k
        · exact hp y k
        · rw [List.mem_singleton.mp k]
          exact m
      | false =>
        have q' := q
        unfold sqOk at q'
        have e2 : (sq.all fun r => rowOk ws r) = false := by
          rw [List.all_eq_false]
          exact ⟨z, List.mem_of_getElem? hz, by rw [m]; exact Bool.false_ne_true⟩
        rw [e2, Bool.and_false] at q'
        exact q'
    · rintro σ H' ⟨rfl, ⟨v, rfl⟩, hp⟩
      rw [hlen, List.take_length] at hp
      have q' := q
      unfold sqOk at q'
      have e2 : (sq.all fun r => rowOk ws r) = true := by
        rw [List.all_eq_true]
        exact hp
      rw [decide_eq_true e', e2] at q'
      exact q'
/-! ### node_fits -/
theorem scFits : FnScope ["words", "slots", "node"] ["words", "slots", "node"] (defScope sFits) := ⟨rfl, rfl, rfl, by decide +kernel, rfl, by decide +kernel, by decide +kernel⟩
def nodeOk (ws ss : List Str) : Ex Str → Bool
  | .word w => decide (w ∈ ws)
  | .slot s => decide (s ∈ ss)
  | .map row _ => rowOk ws row
  | .pair sq _ _ => sqOk ws sq
def spFits : Sp := fun vs H Q _ => ∃ (a b : Addr) (x : V) (ws ss : List Str) (e : Ex Str), vs = [.ref a, .ref b, x] ∧ Tw H ws a ∧ Tw H ss b ∧ ExR H x e ∧ Q (.bl (nodeOk ws ss e)) H
theorem ok_fits {f fR fS : Addr} {fd fdR fdS : FuncData} (F : Fun K "node_fits" "node_fits" sFits f fd) (B : Blt mg) (GR : FnOk P w K mg base CX0 1 fR fdR ["value", "words"] spIsRow) (bR : Binds K fdR ["value", "words"] []) (kR : PySem.W.keepIn K (.ref fR) = true) (mR : mg "is_row" = some (.ref fR))
    (GS : FnOk P w K mg base CX0 2 fS fdS ["value", "words"] spIsSq) (bS : Binds K fdS ["value", "words"] []) (kS : PySem.W.keepIn K (.ref fS) = true) (mS : mg "is_square" = some (.ref fS)) :
    FnOk P w K mg base CX0 3 f fd ["words", "slots", "node"] spFits := by
  refine F.ok scFits (fun vs H Q E h => ?_) (fun cdv A outer s H vs Q E hr h => ?_)
  · obtain ⟨a, b, x, ws, ss, e, rfl, _⟩ := h
    rfl
  obtain ⟨a, b, x, ws, ss, e, rfl, hw, hs, hx, q⟩ := h
  have hr1 : Room 1 _ := hr.mono (by decide)
  refine ⟨_, pss_cons (ps_if (PW.pt (pw_or (pt_not (pt_val (pe_callB call_isi rfl B.isi (by decide +kernel) (pa_cons (pv 2) (pa_cons (pe_bltn (v := .ty "tuple") rfl B.tup (by decide +kernel) rfl) pa_nil)))))
      (pw_or1 (pt_not (pt_chain op_le op_le pe_int (pe_callB call_len_seq rfl B.len PySem.boot_len (pa_cons (pv 2) pa_nil)) pe_int))))) (pss_one (ps_ret pe_bl)) pss_nil)
    (pss_cons (ps_if (pt_cmpR op_eq (pe_callB call_len_seq rfl B.len PySem.boot_len (pa_cons (pv 2) pa_nil)) pe_int (nomark _))
      (pss_cons (ps_if (pt_cmpR op_eq (pe_ix ix_tup (pv 2) pe_int (fun _ _ => rfl)) pe_str (nomark _)) (pss_one (ps_ret (pe_cmpR op_in_seq (pe_ix ix_tup (pv 2) pe_int (fun _ _ => rfl)) (pv 0) rfl))) pss_nil)
        (pss_one (ps_ret (pe_and (pe_cmpR op_eq (pe_ix ix_tup (pv 2) pe_int (fun _ _ => rfl)) pe_str (nomark _)) (pe_one (pe_cmpR op_in_seq (pe_ix ix_tup (pv 2) pe_int (fun _ _ => rfl)) (pv 1) rfl)))))) pss_nil)
    (pss_cons (ps_if (pt_cmpR op_eq (pe_callB call_len_seq rfl B.len PySem.boot_len (pa_cons (pv 2) pa_nil)) pe_int (nomark _))
      (pss_one (ps_ret (pe_and (pe_cmpR op_eq (pe_ix ix_tup (pv 2) pe_int (fun _ _ => rfl)) pe_str (nomark _)) (pe_one (pe_call GR hr1 rfl mR kR bR .nil pass0 (pa_cons (pe_ix ix_tup (pv 2) pe_int (fun _ _ => rfl)) (pa_cons (pv 0) pa_nil))))))) pss_nil)
    (pss_one (ps_ret (pe_and (pe_cmpR op_eq (pe_ix ix_tup (pv 2) pe_int (fun _ _ => rfl)) pe_str (nomark _)) (pe_one (pe_call GS hr rfl mS kS bS .nil pass0 (pa_cons (pe_ix ix_tup (pv 2) pe_int (fun _ _ => rfl)) (pa_cons (pv 0) pa_nil))))))))), ?_⟩
  cases e with
  | word u =>
    obtain ⟨c, rfl, hc⟩ := hx
    obtain ⟨b', rfl, t1, t2⟩ := isi_tup (K := K) hc
    refine ⟨_, rfl, _, _, _, _, _, rfl, .ty _, t1, t2, _, rfl, iteF' rfl ?_⟩
    refine ⟨_, rfl, _, _, rfl, .inr (.of hc), _, _, rfl, rfl, _, rfl, iteT' (by rfl) ⟨_, _, rfl, rfl, _, rfl, iteF' (by rfl) ?_⟩⟩
    refine ⟨_, rfl, _, _, rfl, .inr (.of hc), rfl, _, rfl, iteT' (by rfl) ?_⟩
    refine ⟨_, rfl, _, _, _, _, rfl, rfl, .of hc, atI_nat (j := 0) rfl, rfl, _, rfl, iteT' (by decide +kernel) ?_⟩
    refine ⟨_, rfl, _, _, _, _, rfl, rfl, .of hc, atI_nat (j := 1) rfl, _, rfl, _, _, rfl, .inr (.inl hw), rfl, flat_strs ws, ?_⟩
    rw [inV_str]
    exact q
  | slot u =>
    obtain ⟨c, rfl, hc⟩ := hx
    obtain ⟨b', rfl, t1, t2⟩ := isi_tup (K := K) hc
    refine ⟨_, rfl, _, _, _, _, _, rfl, .ty _, t1, t2, _, rfl, iteF' rfl ?_⟩
    refine ⟨_, rfl, _, _, rfl, .inr (.of hc), _, _, rfl, rfl, _, rfl, iteT' (by rfl) ⟨_, _, rfl, rfl, _, rfl, iteF' (by rfl) ?_⟩⟩
    refine ⟨_, rfl, _, _, rfl, .inr (.of hc), rfl, _, rfl, iteT' (by rfl) ?_⟩
    refine ⟨_, rfl, _, _, _, _, rfl, rfl, .of hc, atI_nat (j := 0) rfl, rfl, _, rfl, iteF' (by decide +kernel) ?_⟩
    refine ⟨_, rfl, _, _, _, _, rfl, rfl, .of hc, atI_nat (j := 0) rfl, rfl, _, rfl, iteT' (by decide +kernel) ?_⟩
    refine ⟨_, rfl, _, _, _, _, rfl, rfl, .of hc, atI_nat (j := 1) rfl, _, rfl, _, _, rfl, .inr (.inl hs), rfl, flat_strs ss, ?_⟩
    rw [inV_str]
    exact q
  | map row e =>
    obtain ⟨c, r, y, rfl, hc, hr2, he⟩ := hx
    obtain ⟨b', rfl, t1, t2⟩ := isi_tup (K := K) hc
    refine ⟨_, rfl, _, _, _, _, _, rfl, .ty _, t1, t2, _, rfl, iteF' rfl ?_⟩
    refine ⟨_, rfl, _, _, rfl, .inr (.of hc), _, _, rfl, rfl, _, rfl, iteT' (by rfl) ⟨_, _, rfl, rfl, _, rfl, iteF' (by rfl) ?_⟩⟩
    refine ⟨_, rfl, _, _, rfl, .inr (.of hc), rfl, _, rfl, iteF' (by rfl) ?_⟩
    refine ⟨_, rfl, _, _, rfl, .inr (.of hc), rfl, _, rfl, iteT' (by rfl) ?_⟩
    refine ⟨_, rfl, _, _, _, _, rfl, rfl, .of hc, atI_nat (j := 0) rfl, rfl, _, rfl, iteT' (by decide +kernel) ?_⟩
    exact ⟨_, rfl, _, _, _, _, rfl, rfl, .of hc, atI_nat (j := 1) rfl, _, rfl, a, r, ws, row, rfl, hw, hr2, q⟩
  | pair sq e e2 =>
    obtain ⟨c, r, y, y2, rfl, hc, hr2, he, he2⟩ := hx
    obtain ⟨b', rfl, t1, t2⟩ := isi_tup (K := K) hc
    refine ⟨_, rfl, _, _, _, _, _, rfl, .ty _, t1, t2, _, rfl, iteF' rfl ?_⟩
    refine ⟨_, rfl, _, _, rfl, .inr (.of hc), _, _, rfl, rfl, _, rfl, iteT' (by rfl) ⟨_, _, rfl, rfl, _, rfl, iteF' (by rfl) ?_⟩⟩
    refine ⟨_, rfl, _, _, rfl, .inr (.of hc), rfl, _, rfl, iteF' (by rfl) ?_⟩
    refine ⟨_, rfl, _, _, rfl, .inr (.of hc), rfl, _, rfl, iteF' (by rfl) ?_⟩
    refine ⟨_, rfl, _, _, _, _, rfl, rfl, .of hc, atI_nat (j := 0) rfl, rfl, _, rfl, iteT' (by decide +kernel) ?_⟩
    exact ⟨_, rfl, _, _, _, _, rfl, rfl, .of hc, atI_nat (j := 1) rfl, _, rfl, a, r, ws, sq, rfl, hw, hr2, q⟩
end
end K4
/-! K4v: word_given, value, reads. -/
namespace K4
open PySem PySem.Spec PyProof.Rows L2
theorem word_first : ∀ {g : List (Str × Str)} {i : Nat} {s w : Str}, (∀ p ∈ g.take i, p.1 ≠ s) → g[i]? = some (s, w) → word g s = some w
  | [], _, _, _, _, h => by simp at h
  | p :: r, 0, s, w, _, h => by
    obtain rfl := Option.some.inj h
    unfold word
    rw [if_pos rfl]
  | (n, v) :: r, i + 1, s, w, hp, h => by
    unfold word
    have h1 : n ≠ s := hp (n, v) (List.mem_cons_self ..)
    rw [if_neg h1]
    exact word_first (i := i) (fun p hq => hp p (List.mem_cons_of_mem _ hq)) h
theorem word_no : ∀ {g : List (Str × Str)} {s : Str}, (∀ p ∈ g, p.1 ≠ s) → word g s = none
  | [], _, _ => rfl
  | (n, v) :: r, s, hp => by
    unfold word
    rw [if_neg (hp (n, v) (List.mem_cons_self ..))]
    exact word_no fun p hq => hp p (List.mem_cons_of_mem _ hq)
section
variable {P : Program} {w : World} {K : PySem.W.Frag} {mg : Str → Option Value} {base : Heap}
/-! ### word_given -/
theorem scWord : FnScope ["given", "slot", "name", "word"] ["given", "slot"] (defScope sWord) := ⟨rfl, rfl, rfl, by decide +kernel, rfl, by decide +kernel, by decide +kernel⟩
def spWord : Sp := fun vs H Q _ => ∃ (a : Addr) (g : List (Str × Str)) (s u : Str), vs = [.ref a, .str s] ∧ GvR H g a ∧ word g s = some u ∧ Q (.str u) H
theorem ok_word {f : Addr} {fd : FuncData} (F : Fun K "word_given" "word_given" sWord f fd) : FnOk P w K mg base CX0 1 f fd ["given", "slot"] spWord := by
  refine F.ok scWord (fun vs H Q E h => ?_) (fun cdv A outer s H vs Q E hr h => ?_)
  · obtain ⟨a, g, s, u, rfl, _⟩ := h
    rfl
  obtain ⟨a, g, z, u, rfl, hg, hu, q⟩ := h
  have nd := scWord.nd
  refine ⟨_, pss_cons (ps_for PassesOwn.never rfl (pi_tup (pv 0)) (pg_tup rfl (pgs_cons (pg_name (i := 2) nd rfl (.inl rfl)) (pgs_cons (pg_name (i := 3) nd rfl (.inl rfl)) pgs_nil)))
      (pss_one (ps_if (pt_cmpR op_eq (pv 2) (pv 1) (nomark _)) (pss_one (ps_ret (pv 3))) pss_nil)))
    (pss_one (ps_ret pe_non)), ?_⟩
  obtain ⟨vs, hv, hp⟩ := id hg
  refine ⟨_, rfl, a, rfl, ⟨_, .of hv⟩, for_tup (K := K) (a := a) (xs := vs) (fun i σ H' => H' = H ∧ (∃ v v', σ = [some (.ref a), some (.str z), v, v']) ∧ ∀ p ∈ g.take i, p.1 ≠ z)
    ⟨rfl, ⟨_, _, rfl⟩, by simp⟩ (fun i σ H' _ h => by rw [h.1]; exact .of hv) ?_ ?_⟩
  · rintro i x σ H' hi ⟨rfl, ⟨v, v', rfl⟩, hn⟩
    obtain ⟨⟨k, y⟩, hk, b, rfl, hb⟩ := paired_get hp hi
    refine ⟨b, _, rfl, .of hb, rfl, _, _, rfl, _, _, rfl, rfl, ?_⟩
    refine ⟨_, rfl, _, rfl, rfl, _, rfl, ite2 (fun e => ?_) (fun e => ?_)⟩
    · have e' : k = z := by
        have := of_decide_eq_true e
        injection this
      subst e'
      have q2 := word_first hn hk
      rw [hu] at q2
      obtain rfl := Option.some.inj q2
      exact ⟨_, rfl, q⟩
    · refine ⟨rfl, ⟨_, _, rfl⟩, fun p hp2 => ?_⟩
      rw [List.take_add_one, hk] at hp2
      rcases List.mem_append.mp hp2 with m | m
      · exact hn p m
      · rw [List.mem_singleton.mp m]
        intro e2
        exact e (decide_eq_true (by rw [← e2]))
  · rintro σ H' ⟨rfl, ⟨v, v', rfl⟩, hn⟩
    rw [paired_length hp, List.take_length] at hn
    rw [word_no hn] at hu
    cases hu
/-! ### value -/
theorem scValue : FnScope ["words", "expr", "given", "row"] ["words", "expr", "given"] (defScope sValue) := ⟨rfl, rfl, rfl, by decide +kernel, rfl, by decide +kernel, by decide +kernel⟩
def spVal (n : Nat) : Sp := fun vs H Q _ => ∃ (a g : Addr) (x : V) (ws : List Str) (e : Ex Str) (gs : List (Str × Str)) (u : Str), vs = [.ref a, x, .ref g] ∧ Wd H ws a ∧ ExR H x e ∧ GvR H gs g ∧ e.deep ≤ n ∧ ev ws gs e = some u ∧ Q (.str u) H
theorem val_none {f : Addr} {fd : FuncData} : FnOk P w K mg base CX0 1 f fd ["words", "expr", "given"] (spVal 0) := by
  have no : ∀ vs H Q E, ¬ spVal 0 vs H Q E := fun vs H Q E h => by
    obtain ⟨a, g, x, ws, e, gs, u, _, _, _, _, h1, _⟩ := h
    have := e.deep_pos
    omega
  exact ⟨fun vs H Q E h => absurd h (no vs H Q E), fun A outer s H args us vs Q E _ _ _ _ h => absurd h (no vs H Q E)⟩
theorem bind3 {α β : Type} {x : Option α} {f : α → Option β} {b : β} (h : x.bind f = some b) : ∃ a, x = some a ∧ f a = some b := Option.bind_eq_some_iff.mp h
theorem ok_value {f fW : Addr} {fd fdW : FuncData} (F : Fun K "value" "value" sValue f fd) (bF : Binds K fd ["words", "expr", "given"] []) (kF : PySem.W.keepIn K (.ref f) = true) (mF : mg "value" = some (.ref f))
    (GW : FnOk P w K mg base CX0 1 fW fdW ["given", "slot"] spWord) (bW : Binds K fdW ["given", "slot"] []) (kW : PySem.W.keepIn K (.ref fW) = true) (mW : mg "word_given" = some (.ref fW)) :
    ∀ n : Nat, FnOk P w K mg base CX0 (n + 1) f fd ["words", "expr", "given"] (spVal n)
  | 0 => val_none
  | n + 1 => by
    have ih := ok_value F bF kF mF GW bW kW mW n
    refine F.ok scValue (fun vs H Q E h => ?_) (fun cdv A outer s H vs Q E hr h => ?_)
    · obtain ⟨a, g, x, ws, e, gs, u, rfl, _⟩ := h
      rfl
    obtain ⟨a, g, x, ws, e, gs, u, rfl, hw, hx, hg, hd, hu, q⟩ := h
    have hr1 : Room 1 _ := hr.mono (by omega)
    have nd := scValue.nd
    refine ⟨_, pss_cons (ps_if (pt_cmpR op_eq (pe_ix ix_tup (pv 1) pe_int (fun _ _ => rfl)) pe_str (nomark _)) (pss_one (ps_ret (pe_ix ix_tup (pv 1) pe_int (fun _ _ => rfl)))) pss_nil)
      (pss_cons (ps_if (pt_cmpR op_eq (pe_ix ix_tup (pv 1) pe_int (fun _ _ => rfl)) pe_str (nomark _)) (pss_one (ps_ret (pe_call GW hr1 rfl mW kW bW .nil pass0 (pa_cons (pv 2) (pa_cons (pe_ix ix_tup (pv 1) pe_int (fun _ _ => rfl)) pa_nil))))) pss_nil)
      (pss_cons (ps_set (i := 3) nd rfl (.inl rfl) (pe_ix ix_tup (pe_ix ix_tup (pv 1) pe_int (fun _ _ => rfl)) (pe_idx (pv 0) (pa_cons (pe_call ih hr rfl mF kF bF .nil pass0 (pa_cons (pv 0) (pa_cons (pe_ix ix_tup (pv 1) pe_int (fun _ _ => rfl)) (pa_cons (pv 2) pa_nil)))) pa_nil)) (fun _ _ => rfl)))
      (pss_cons (ps_if (pt_cmpR op_eq (pe_ix ix_tup (pv 1) pe_int (fun _ _ => rfl)) pe_str (nomark _)) (pss_one (ps_ret (pv 3))) pss_nil)
      (pss_one (ps_ret (pe_ix ix_tup (pv 3) (pe_idx (pv 0) (pa_cons (pe_call ih hr rfl mF kF bF .nil pass0 (pa_cons (pv 0) (pa_cons (pe_ix ix_tup (pv 1) pe_int (fun _ _ => rfl)) (pa_cons (pv 2) pa_nil)))) pa_nil)) (fun _ _ => rfl))))))), ?_⟩
    cases e with
    | word z =>
      obtain ⟨c, rfl, hc⟩ := hx
      obtain rfl : z = u := Option.some.inj hu
      refine ⟨_, rfl, _, _, _, _, rfl, rfl, .of hc, atI_nat (j := 0) rfl, rfl, _, rfl, iteT' (by decide +kernel) ?_⟩
      exact ⟨_, rfl, _, _, _, _, rfl, rfl, .of hc, atI_nat (j := 1) rfl, q⟩
    | slot z =>
      obtain ⟨c, rfl, hc⟩ := hx
      refine ⟨_, rfl, _, _, _, _, rfl, rfl, .of hc, atI_nat (j := 0) rfl, rfl, _, rfl, iteF' (by decide +kernel) ?_⟩
      refine ⟨_, rfl, _, _, _, _, rfl, rfl, .of hc, atI_nat (j := 0) rfl, rfl, _, rfl, iteT' (by decide +kernel) ?_⟩
      exact ⟨_, rfl, _, rfl, _, _, _, _, rfl, rfl, .of hc, atI_nat (j := 1) rfl, g, gs, z, u, rfl, hg, hu, q⟩
    | map row e =>
      obtain ⟨c, r, y, rfl, hc, hrw, he⟩ := hx
      obtain ⟨v1, e1, hu⟩ := bind3 hu
      obtain ⟨i, e2, hu⟩ := bind3 hu
      have hd' : e.deep ≤ n := by unfold Ex.deep at hd; omega
      refine ⟨_, rfl, _, _, _, _, rfl, rfl, .of hc, atI_nat (j := 0) rfl, rfl, _, rfl, iteF' (by decide +kernel) ?_⟩
      refine ⟨_, rfl, _, _, _, _, rfl, rfl, .of hc, atI_nat (j := 0) rfl, rfl, _, rfl, iteF' (by decide +kernel) ?_⟩
      refine ⟨_, rfl, _, _, _, _, rfl, rfl, .of hc, atI_nat (j := 1) rfl, _, rfl, ⟨a, ws, rfl, hw⟩, _, rfl, _, rfl, _, _, _, _, rfl, rfl, .of hc, atI_nat (j := 2) rfl, _, rfl, ?_⟩
      refine ⟨a, g, y, ws, e, gs, v1, rfl, hw, he, hg, hd', e1, ?_⟩
      refine ⟨a, ws, v1, i, rfl, rfl, .inl hw.tw, (idx_some e2).1, (idx_some e2).2, ?_⟩
      refine ⟨r, row.map V.str, _, .str u, rfl, rfl, .of hrw, atI_nat (by rw [List.getElem?_map, hu]; rfl), ?_⟩
      refine ⟨_, rfl, _, _, _, _, rfl, rfl, .of hc, atI_nat (j := 0) rfl, rfl, _, rfl, iteT' (by decide +kernel) ?_⟩
      exact ⟨_, rfl, q⟩
    | pair sq e e3 =>
      obtain ⟨c, r, y, y2, rfl, hc, hsq, he, he3⟩ := hx
      obtain ⟨v1, e1, hu⟩ := bind3 hu
      obtain ⟨i, e2, hu⟩ := bind3 hu
      obtain ⟨row, erow, hu⟩ := bind3 hu
      obtain ⟨v2, e4, hu⟩ := bind3 hu
      obtain ⟨j, e5, hu⟩ := bind3 hu
      have hd' : e.deep ≤ n := by unfold Ex.deep at hd; omega
      have hd3 : e3.deep ≤ n := by unfold Ex.deep at hd; omega
      obtain ⟨rs, hrs, hp⟩ := hsq
      obtain ⟨x0, hx0, b, rfl, hb⟩ : ∃ x0, rs[i]? = some x0 ∧ RowV H x0 row := by
        have hl := paired_length hp
        have hi : i < sq.length := (List.getElem?_eq_some_iff.mp erow).1
        have hi' : i < rs.length := by omega
        obtain ⟨z, hz, hr'⟩ := paired_get hp (List.getElem?_eq_getElem hi')
        rw [erow] at hz
        obtain rfl := Option.some.inj hz
        exact ⟨_, List.getElem?_eq_getElem hi', hr'⟩
      refine ⟨_, rfl, _, _, _, _, rfl, rfl, .of hc, atI_nat (j := 0) rfl, rfl, _, rfl, iteF' (by decide +kernel) ?_⟩
      refine ⟨_, rfl, _, _, _, _, rfl, rfl, .of hc, atI_nat (j := 0) rfl, rfl, _, rfl, iteF' (by decide +kernel) ?_⟩
      refine ⟨_, rfl, _, _, _, _, rfl, rfl, .of hc, atI_nat (j := 1) rfl, _, rfl, ⟨a, ws, rfl, hw⟩, _, rfl, _, rfl, _, _, _, _, rfl, rfl, .of hc, atI_nat (j := 2) rfl, _, rfl, ?_⟩
      refine ⟨a, g, y, ws, e, gs, v1, rfl, hw, he, hg, hd', e1, ?_⟩
      refine ⟨a, ws, v1, i, rfl, rfl, .inl hw.tw, (idx_some e2).1, (idx_some e2).2, ?_⟩
      refine ⟨r, rs, _, .ref b, rfl, rfl, .of hrs, atI_nat hx0, ?_⟩
      refine ⟨_, rfl, _, _, _, _, rfl, rfl, .of hc, atI_nat (j := 0) rfl, rfl, _, rfl, iteF' (by decide +kernel) ?_⟩
      refine ⟨_, rfl, _, rfl, ⟨a, ws, rfl, hw⟩, _, rfl, _, rfl, _, _, _, _, rfl, rfl, .of hc, atI_nat (j := 3) rfl, _, rfl, ?_⟩
      refine ⟨a, g, y2, ws, e3, gs, v2, rfl, hw, he3, hg, hd3, e4, ?_⟩
      refine ⟨a, ws, v2, j, rfl, rfl, .inl hw.tw, (idx_some e5).1, (idx_some e5).2, ?_⟩
      exact ⟨b, row.map V.str, _, .str u, rfl, rfl, .of hb, atI_nat (by rw [List.getElem?_map, hu]; rfl), q⟩
end
end K4
/-! K5: nodes and their parts; reads. -/
namespace K4
open PySem PySem.Spec PyProof.Rows L2
/-- the parts of a node -/
def kids : Ex Str → List (Ex Str)
  | .word _ => []
  | .slot _ => []
  | .map _ e => [e]
  | .pair _ e f => [e, f]
def tot (l : List (Ex Str)) : Nat := (l.map Ex.size).sum
theorem tot_cons (e : Ex Str) (l : List (Ex Str)) : tot (e :: l) = e.size + tot l := by
  unfold tot
  rw [List.map_cons, List.sum_cons]
theorem tot_append (l m : List (Ex Str)) : tot (l ++ m) = tot l + tot m := by
  unfold tot
  rw [List.map_append, List.sum_append]
theorem size_kids (e : Ex Str) : e.size = 1 + tot (kids e) := by
  cases e with
  | word w => rfl
  | slot s => rfl
  | map r e =>
    show 1 + e.size = 1 + tot [e]
    rw [tot_cons]
    rfl
  | pair s e f =>
    show 1 + e.size + f.size = 1 + tot [e, f]
    rw [tot_cons, tot_cons]
    show 1 + e.size + f.size = 1 + (e.size + (f.size + 0))
    omega
theorem length_tot : ∀ l : List (Ex Str), l.length ≤ tot l
  | [] => Nat.zero_le _
  | e :: r => by
    have ih := length_tot r
    have := e.size_pos
    rw [tot_cons, List.length_cons]
    omega
/-- what a node reads itself -/
def own : Ex Str → List Str
  | .slot s => [s]
  | _ => []
theorem slots_kids (e : Ex Str) : e.slots = own e ++ (kids e).flatMap Ex.slots := by
  cases e with
  | word w => rfl
  | slot s => rfl
  | map r e =>
    show e.slots = [] ++ (e.slots ++ [])
    rw [List.append_nil, List.nil_append]
  | pair s e f =>
    show e.slots ++ f.slots = [] ++ (e.slots ++ (f.slots ++ []))
    rw [List.append_nil, List.nil_append]
/-- a node in the heap: its tag, its word, slot or table, its parts -/
theorem ExR.node {H : Hp} {v : V} {e : Ex Str} (h : ExR H v e) : ∃ (c : Addr) (t : Str) (s : V) (ys : List V), v = .ref c ∧ H c = some (.tup (.str t :: s :: ys)) ∧ Paired (ExR H) ys (kids e) ∧ ys.length ≤ 2 ∧
    ((t = "slot" ∧ ∃ z, s = .str z ∧ own e = [z]) ∨ (t ≠ "slot" ∧ own e = [])) := by
  cases e with
  | word u =>
    obtain ⟨c, rfl, hc⟩ := h
    exact ⟨c, _, _, _, rfl, hc, .nil, by decide, .inr ⟨by decide +kernel, rfl⟩⟩
  | slot u =>
    obtain ⟨c, rfl, hc⟩ := h
    exact ⟨c, _, _, _, rfl, hc, .nil, by decide, .inl ⟨rfl, u, rfl, rfl⟩⟩
  | map row e =>
    obtain ⟨c, r, y, rfl, hc, _, he⟩ := h
    exact ⟨c, _, _, _, rfl, hc, .cons he .nil, by show 1 ≤ 2; decide, .inr ⟨by decide +kernel, rfl⟩⟩
  | pair sq e f =>
    obtain ⟨c, r, y, y2, rfl, hc, _, he, hf⟩ := h
    exact ⟨c, _, _, _, rfl, hc, .cons he (.cons hf .nil), by show 2 ≤ 2; decide, .inr ⟨by decide +kernel, rfl⟩⟩
theorem cut2 (a b : V) (ys : List V) : cutV (a :: b :: ys) (some 2) none = ys := by
  unfold cutV
  rw [HT.sIx_none, show HT.sIx (a :: b :: ys).length 0 (some 2) = min 2 (a :: b :: ys).length from HT.sIx_nat _ _ 2]
  have e : min 2 (a :: b :: ys).length = 2 := by
    rw [List.length_cons, List.length_cons]
    omega
  rw [e]
  show List.take ((a :: b :: ys).length - 2) ys = ys
  rw [List.length_cons, List.length_cons]
  exact List.take_of_length_le (by omega)
theorem whole2 (a b : V) (ys : List V) : ¬ (HT.sIx (a :: b :: ys).length 0 (some 2) = 0 ∧ HT.sIx (a :: b :: ys).length (a :: b :: ys).length none = (a :: b :: ys).length) := by
  rintro ⟨h, _⟩
  rw [show HT.sIx (a :: b :: ys).length 0 (some 2) = min 2 (a :: b :: ys).length from HT.sIx_nat _ _ 2, List.length_cons, List.length_cons] at h
  omega
theorem paired_append {α β : Type} {F : α → β → Prop} : ∀ {l l' : List α} {m m' : List β}, Paired F l m → Paired F l' m' → Paired F (l ++ l') (m ++ m')
  | _, _, _, _, .nil, h => h
  | _, _, _, _, .cons r t, h => .cons r (paired_append t h)
theorem last_snoc (r : List V) (x : V) : (r ++ [x])[(r ++ [x]).length - 1]? = some x := by
  rw [List.length_append, List.length_singleton, Nat.add_sub_cancel, List.getElem?_append_right (Nat.le_refl _), Nat.sub_self]
  rfl
section
variable {P : Program} {w : World} {K : PySem.W.Frag} {mg : Str → Option Value} {base : Heap}
/-! ### reads -/
theorem scReads : FnScope ["expr", "slots", "waiting", "node"] ["expr"] (defScope sReads) := ⟨rfl, rfl, rfl, by decide +kernel, rfl, by decide +kernel, by decide +kernel⟩
def spReads : Sp := fun vs H Q _ => ∃ (x : V) (e : Ex Str), vs = [x] ∧ ExR H x e ∧ e.size ≤ 1000 ∧ ∀ (H' : Hp) (r : Addr), Same H H' → H r = none → Tx H' (reads e) r → Q (.ref r) H'
/-- behind some turns: acc is read, st waits (its first is the list's last) -/
def RdInv (H : Hp) (x : V) (e : Ex Str) (S Wa : Addr) (m : Nat) (σ : L2.St) (H' : Hp) : Prop :=
  ∃ (acc : List Str) (r : List V) (st : List (Ex Str)) (v : Option V), σ = [some x, some (.ref S), some (.ref Wa), v] ∧ Same H H' ∧ H' S = some (.lst (acc.map V.str)) ∧ H' Wa = some (.lst r.reverse) ∧
    Paired (ExR H) r st ∧ m = tot st ∧ tot st + acc.length ≤ 1000 ∧ (st.flatMap Ex.slots).foldl addNew acc = reads e
theorem ok_reads {f : Addr} {fd : FuncData} (F : Fun K "reads" "reads" sReads f fd) (B : Blt mg) : FnOk P w K mg base CX0 1 f fd ["expr"] spReads := by
  refine F.ok scReads (fun vs H Q E h => ?_) (fun cdv A outer s H vs Q E hr h => ?_)
  · obtain ⟨x, e, rfl, _⟩ := h
    rfl
  obtain ⟨x, e, rfl, hx, hsz, q⟩ := h
  have nd := scReads.nd
  refine ⟨_, pss_cons (ps_set (i := 1) nd rfl (.inl rfl) (pe_lst pa_nil))
    (pss_cons (ps_set (i := 2) nd rfl (.inl rfl) (pe_lst (pa_cons (pv 0) pa_nil)))
    (pss_cons (ps_while PassesOwn.never (pt_truth (pv 2) (by intro _; rfl))
      (pss_cons (ps_set (i := 3) nd rfl (.inl rfl) (pe_bm0 PySem.F.plainAttrs_list PySem.F.slot_list_pop PySem.F.type_list_pop mt_pop (pv 2)))
      (pss_cons (ps_if (PW.pt (pw_and (pt_cmpR op_eq (pe_ix ix_tup (pv 3) pe_int (fun _ _ => rfl)) pe_str (nomark _)) (pw_and1 (pt_cmpR op_notIn_seq (pe_ix ix_tup (pv 3) pe_int (fun _ _ => rfl)) (pv 1) rfl))))
        (pss_one (ps_expr (pe_bm PySem.F.plainAttrs_list PySem.F.slot_list_append PySem.F.type_list_append mt_append (pv 1) (pa_cons (pe_ix ix_tup (pv 3) pe_int (fun _ _ => rfl)) pa_nil)))) pss_nil)
      (pss_one (ps_expr (pe_bm PySem.F.plainAttrs_list PySem.F.slot_list_extend PySem.F.type_list_extend mt_extend (pv 2)
        (pa_cons (pe_revL (pe_callTy call_list_of rfl B.lst (by decide +kernel) (pa_cons (pe_slice sl_tup (pv 3) (po_some pe_int) po_none) pa_nil))) pa_nil)))))))
    (pss_one (ps_ret (pe_callTy call_tuple_of rfl B.tup (by decide +kernel) (pa_cons (pv 1) pa_nil)))))), ?_⟩
  -- slots = []; waiting = [expr]
  refine ⟨Nat.zero_le _, fun S hS => ⟨_, rfl, by show 1 ≤ sizeLine; decide, fun Wa hWa => ?_⟩⟩
  have s1 : Same H (upd H S (.lst [])) := same_new hS _
  have s2 := s1.trans (same_new hWa (.lst [x]))
  have nSW : S ≠ Wa := fun z => by
    rw [← z, upd_same] at hWa
    cases hWa
  have hWa0 : H Wa = none := s1.free hWa
  refine ⟨RdInv H x e S Wa, ⟨tot [e], [], [x], [e], none, rfl, s2, ?_, upd_same, .cons hx .nil, rfl, ?_, ?_⟩, ?_⟩
  · rw [upd_ne nSW, upd_same]
    rfl
  · rw [tot_cons]
    show e.size + 0 + 0 ≤ 1000
    omega
  · show (e.slots ++ []).foldl addNew [] = reads e
    rw [List.append_nil]
    rfl
  rintro m σ H1 ⟨acc, r, st, v, rfl, sm, eS, eW, hp, rfl, hb, hf⟩
  refine ⟨_, rfl, _, .inl ⟨_, .of eW, rfl⟩, ?_⟩
  cases hp with
  | nil =>
    -- the end: return tuple(slots)
    refine ⟨_, rfl, S, _, rfl, .inl ⟨.of eS, fun l hl => ?_⟩⟩
    refine q _ l (sm.trans (same_new hl _)) (sm.free hl) ?_
    have ef : acc = reads e := hf
    unfold Tx
    rw [upd_same, ef]
  | @cons y e1 r' st' hy hp' =>
    have ne : (!(y :: r').reverse.isEmpty) = true := by
      rw [List.reverse_cons]
      cases r'.reverse <;> rfl
    refine iteT' ne ?_
    rw [List.reverse_cons] at eW
    obtain ⟨c, t, sv, ys, rfl, hc, hk, hk2, hown⟩ := hy.node
    have hpos := size_kids e1
    rw [tot_cons] at hb
    -- the turn's aim
    refine ⟨fun σ' H' => ∃ m', m' < tot (e1 :: st') ∧ RdInv H x e S Wa m' σ' H', fun σ' H' h => h, ?_⟩
    -- node = waiting.pop()
    refine ⟨_, rfl, .inl ⟨rfl, _, .of eW⟩, Wa, _, .ref c, rfl, rfl, eW, last_snoc _ _, ?_⟩
    rw [List.dropLast_concat]
    have nWS : Wa ≠ S := nSW.symm
    have eW2 : (upd H1 Wa (.lst r'.reverse)) Wa = some (.lst r'.reverse) := upd_same
    have eS2 : (upd H1 Wa (.lst r'.reverse)) S = some (.lst (acc.map V.str)) := by rw [upd_ne nSW]; exact eS
    have sm2 : Same H (upd H1 Wa (.lst r'.reverse)) := fun b o h => by
      rw [upd_ne (ne_of_none h hWa0)]
      exact sm b o h
    have hcW : (upd H1 Wa (.lst r'.reverse)) c = some (.tup (.str t :: sv :: ys)) := sm2 _ _ hc
    generalize upd H1 Wa (.lst r'.reverse) = H2 at eW2 eS2 sm2 hcW
    -- the slot; then the parts
    have parts : ∀ (H3 : Hp) (acc' : List Str), Same H H3 → H3 S = some (.lst (acc'.map V.str)) → H3 Wa = some (.lst r'.reverse) → acc' = (own e1).foldl addNew acc → acc'.length ≤ acc.length + 1 →
        (tDrop (tBM K "list" rExtend (tVar 2) (tCons (tRevL K (tCB (fun xs H Q => ∃ p ys, xs = [.ref p] ∧ (SqL K H p ys ∨ SqT K H p ys) ∧ ∀ l, H l = none → Q (.ref l) (upd H l (.lst ys))) (tCons (tSl (rSlT K) (tVar 3) (tPart (tC (.int 2))) tNoPart) tNil))) tNil)))
          { nx := fun σ' H' => ∃ m', m' < tot (e1 :: st') ∧ RdInv H x e S Wa m' σ' H', rt := Q, bk := fun _ _ => False, ct := fun σ' H' => ∃ m', m' < tot (e1 :: st') ∧ RdInv H x e S Wa m' σ' H' } [some x, some (.ref S), some (.ref Wa), some (.ref c)] H3 := by
      intro H3 acc' sm3 eS3 eW3 ea hl
      refine ⟨_, rfl, .inl ⟨rfl, _, .of eW3⟩, _, rfl, 2, rfl, c, _, rfl, .of (sm3 _ _ hc), whole2 _ _ _, fun p np => ?_⟩
      rw [cut2]
      refine ⟨p, ys, rfl, .inr (.of upd_same), fun l nl => ?_⟩
      refine ⟨l, ys, rfl, .of upd_same, fun l2 nl2 => ?_⟩
      have k1 : Same H3 (upd (upd (upd H3 p (.tup ys)) l (.lst ys)) l2 (.lst ys.reverse)) := ((same_new np _).trans (same_new nl _)).trans (same_new nl2 _)
      refine ⟨Wa, l2, _, _, rfl, rfl, k1 _ _ eW3, upd_same, ?_, ?_⟩
      · have l1 := length_tot st'
        rw [← paired_length hp'] at l1
        have l2 := length_tot (kids e1)
        rw [← paired_length hk] at l2
        rw [List.length_reverse, List.length_reverse]
        have : r'.length + ys.length ≤ 1000 := by omega
        exact Nat.le_of_lt (small1000 this)
      · refine ⟨tot (kids e1 ++ st'), ?_, acc', ys ++ r', kids e1 ++ st', _, rfl, fun b o h => ?_, ?_, ?_, paired_append hk hp', rfl, ?_, ?_⟩
        · rw [tot_append, tot_cons]
          omega
        · rw [upd_ne (ne_of_none h hWa0)]
          exact k1 _ _ (sm3 _ _ h)
        · rw [upd_ne nSW]
          exact k1 _ _ eS3
        · rw [upd_same, List.reverse_append]
        · rw [tot_append]
          omega
        · rw [List.flatMap_append, List.foldl_append, ea, ← List.foldl_append, ← List.foldl_append, ← List.append_assoc, ← slots_kids]
          exact hf
    rcases hown with ⟨rfl, z, rfl, ho⟩ | ⟨ht, ho⟩
    · refine ⟨_, rfl, c, _, _, _, rfl, rfl, .of hcW, atI_nat (j := 0) rfl, rfl, _, rfl, iteT' (decide_eq_true rfl) ?_⟩
      refine ⟨_, rfl, c, _, _, _, rfl, rfl, .of hcW, atI_nat (j := 1) rfl, _, rfl, S, _, rfl, .inl (.of eS2), rfl, flat_strs acc, _, rfl, ?_⟩
      rw [inV_str]
      by_cases mz : z ∈ acc
      · rw [decide_eq_true mz]
        refine parts H2 acc sm2 eS2 eW2 ?_ (by omega)
        rw [ho]
        show acc = addNew acc z
        unfold addNew
        rw [if_pos mz]
      · rw [decide_eq_false mz]
        refine ⟨_, rfl, .inl ⟨rfl, _, .of eS2⟩, _, rfl, c, _, _, _, rfl, rfl, .of hcW, atI_nat (j := 1) rfl, S, _, _, rfl, rfl, eS2, ?_, ?_⟩
        · rw [List.length_map]
          have : acc.length ≤ 1000 := by omega
          exact small1000 this
        · refine parts _ (acc ++ [z]) (fun b o h => ?_) ?_ ?_ ?_ ?_
          · rw [upd_ne (ne_of_none h hS)]
            exact sm2 _ _ h
          · rw [upd_same, List.map_append]
            rfl
          · rw [upd_ne nWS]
            exact eW2
          · rw [ho]
            show acc ++ [z] = addNew acc z
            unfold addNew
            rw [if_neg mz]
          · rw [List.length_append, List.length_singleton]
            exact Nat.le_refl _
    · refine ⟨_, rfl, c, _, _, _, rfl, rfl, .of hcW, atI_nat (j := 0) rfl, rfl, _, rfl, iteF' (decide_eq_false (fun y => ht (by injection y))) ?_⟩
      refine parts H2 acc sm2 eS2 eW2 ?_ (by omega)
      rw [ho]
      rfl
end
end K4
/-! K6: InvalidExpr(path): its __init__ says super().__init__(text), then self.path = path. -/
namespace K4
open PySem PySem.Spec PyProof.Rows L2
abbrev sInvInit : Stmt := inClass (topS 2) 0
/-- what the written part says of InvalidExpr (at C), of its __init__ (at fI), of the cell __class__ (at cc) and the code object (at cda) -/
structure InvTxt (P : Program) (K : PySem.W.Frag) (mg : Str → Option Value) (C fI cc cda : Addr) : Prop where
  gC : mg "InvalidExpr" = some (.ref C)
  sup : mg "super" = none
  cls : ∃ nm q N bs bm sn sub ab col dd k0 k1 k2 k3 k5, K.lookup C = some (excClassObj nm q C N bs bm true sn sub ab col dd k0 k1 k2 k3 k5 "ValueError.__new__") ∧ PySem.HandSPX.refsVE bm = true
  sa : PySem.W.findIn K (.ref C) "__setattr__" = some (some (.builtin "object.__setattr__"))
  noN : PySem.W.findIn K (.ref C) "path" = some none
  iC : PySem.W.findIn K (.ref C) "__init__" = some (some (.ref fI))
  tC : PySem.W.typeIn K (.ref fI) = some (.type "function")
  kC : PySem.W.keepIn K (.ref C) = true
  exC : PySem.W.subIn K (.ref C) (.type "BaseException") = some true
  tyC : PySem.W.typeIn K (.ref C) = some (.type "type")
  veC : PySem.W.subIn K (.ref C) (.type "ValueError") = some true
  own : PySem.W.mroIn K C (.ref C) = some true
  te : PySem.W.exmOne K (.ref C) (.ref C) = some true
  up : PySem.W.ks_superIn K C C "__init__" = some (some (.builtin "ValueError.__init__"))
  opq : PySem.W.nsIn K cStatics "thirdparty.any" = some none
  fn : ∃ (oc : Value) (od : Option Addr) (doc pm : Value) (an : Option Addr) (ct : Value) (osl : Array (Option Value)),
    K.lookup fI = some ⟨oc, od, .func (PySem.W.ksFn "__init__" "InvalidExpr.__init__" (defArgs sInvInit) (defBody sInvInit) (defScope sInvInit) .none .none doc pm an (.ref cda) ct cc), osl⟩ ∧ PySem.W.codeIn K (.ref cda) "InvalidExpr.__init__" = true
  cell : ∃ (cl : Value) (cld : Option Addr) (csl : Array (Option Value)), K.lookup cc = some ⟨cl, cld, .cell (some (.ref C)), csl⟩
  code : ∃ (ccl : Value) (cdd : Option Addr) (vs : Array Value) (ccs : Array (Option Value)) (file : Str) (tf : Tok), K.lookup cda = some ⟨ccl, cdd, .fields vs, ccs⟩ ∧ vs[2]? = some (.str file tf) ∧ ((P.main.file : Str) == file) = true
  top : (P.main.scope.names.lookup ("super" : Str)).isSome = false
abbrev eo (C t : Addr) (d : Option Addr) : Obj := { cls := .ref C, dict := d, data := .fields #[.ref t, .none, .none, .none, .bool false, .none] }
section
variable {P : Program} {w : World} {A : Around} {E : Value → Shared → Prop} {R : Result → Shared → Prop} {s : Shared} {K : PySem.W.Frag} {mg : Str → Option Value} {C fI cc cda : Addr}
theorem kept_but {h h' : Heap} {x : Addr} (X : K.In h) (hx : K.lookup x = none) (k : ∀ b o, b ≠ x → h.get? b = some o → h'.get? b = some o) : K.In h' := fun a o e =>
  k a o (fun z => by rw [z, hx] at e; cases e) (X a o e)
/-- ValueError.__init__ bound to the exception, called with a text -/
theorem up_call {h : Heap} {g : Array GenState} {d : Drawn} {t : Nat} {os : OsState} {u x t0 : Addr} {rest : List Value} {Q : Value → Shared → Prop} (T : InvTxt P K mg C fI cc cda) (X : K.In h) (hx : h.get? x = some (eo C t0 none)) (hu : h.get? u = some (PySem.W.kxs_mw "ValueError.__init__" x)) (hz : rest.length ≤ sizeLine)
    (hq : ∀ h' t1, (∀ b o, b ≠ x → h.get? b = some o → h'.get? b = some o) → h'.get? x = some (eo C t1 none) → Q .none ⟨h', g, d, t, os⟩) :
    wpAny (model P w) A (call (.ref u) rest) Q E ⟨h, g, d, t, os⟩ := by
  obtain ⟨nm, q, N, bs, bm, sn, sub, ab, col, dd, k0, k1, k2, k3, k5, hC, hbm⟩ := T.cls
  refine wpAny_call (codeAny_of_tree ?_)
  show wpAny _ A.in1 (callAny (.ref u) ⟨rest, []⟩) _ _ _
  simp only [callAny]
  refine wpAny_bind (wpAny_load hu ?_)
  simp only [PySem.W.kxs_mw, show (Value.type "method-wrapper" == Value.type "method" || Value.type "method-wrapper" == Value.type "builtin_function_or_method" || Value.type "method-wrapper" == Value.type "method-wrapper") = true by decide, if_true]
  refine PySem.W.KFB.if_so (by decide) ?_
  refine wpAny_bind (PySem.W.check_bound_init F.excBase_ValueError.toExcCallFacts (X _ _ hC) hx rfl ?_)
  refine wpAny_bind (wpAny_pure (wpAny_pure ?_))
  refine ⟨plainId_quiet F.excBase_ValueError.init.plain _, codeAny_builtin F.excBase_ValueError.initEntry ?_⟩
  refine PySem.W.exc_init_tree (cls := .ref C) (t0 := t0) (dv := none) (c2 := .none) (c3 := .none) (b4 := .bool false) hx hz fun h' k e _ => ?_
  exact hq h' _ k e
theorem inv_init (T : InvTxt P K mg C fI cc cda) {x t0 : Addr} {v : Value} {mb : Str → Option Value} (X : K.In s.heap) (hlim : s.heap.NoLimit) (hg : s.heap.Ns mainGlobals mg) (hb : s.heap.Ns builtinsNs mb) (hbs : ∀ y : Str, y ≠ "__name__" → mb y = bootBuiltins y)
    (hx : s.heap.get? x = some (eo C t0 none)) (hnx : K.lookup x = none) (hgx : x ≠ mainGlobals) (hbx : x ≠ builtinsNs) (hroom : A.depth < recursionLimit)
    (hq : ∀ h' tk t1 dx, (∀ b o, b ≠ x → s.heap.get? b = some o → h'.get? b = some o) → h'.get? x = some (eo C t1 (some dx)) → R (.ok (.ret .none)) { s with heap := h', toks := tk }) :
    codeAny (model P w) A (.call (.ref fI) ⟨[.ref x, v], []⟩) R s := by
  obtain ⟨oc, od, doc, pm, an, ct, osl, ho, hcd⟩ := T.fn
  obtain ⟨nm, q, N, bs, bm, sn, sub, ab, col, dd, k0, k1, k2, k3, k5, hC, hbm⟩ := T.cls
  obtain ⟨cl, cld, csl, hcell⟩ := T.cell
  obtain ⟨ccl, cdd, vs, ccs, file, tf, hcode, hvs, hfile⟩ := T.code
  have hcl : PySem.W.clsIn K C = some { name := nm, bases := bs, mro := .ref C :: bm, ns := N, qualname := q, hasDict := true, slotNames := sn, subclasses := sub, abstract := ab, collection := col, hasDel := false } := by
    unfold PySem.W.clsIn
    rw [hC] <;> rfl
  obtain ⟨hp, g, d, tk, os⟩ := s
  refine ks_codeAny_call_defAt (binds := [("self", .ref x), ("path", v)]) (body := defBody sInvInit) hroom (X _ _ ho) rfl hlim (PySem.W.codeRec_of X hcd) rfl (BindsTo.of_eq rfl) (show ∀ x ∈ (defScope sInvInit).names, x.2 ≠ .cell by decide +kernel) (fun y hy => ?_) (fun h0 hns hk => ?_) rfl rfl rfl
  · rcases List.mem_cons.mp hy with rfl | hy
    · rfl
    · rw [List.mem_singleton.mp hy]
      rfl
  have X0 : K.In h0 := X.keeps hk
  have hx0 := hk _ _ hx
  have hC0 := X0 _ _ hC
  refine ks_wpAt_execs_cons (ks_wpAt_Expr_any (ks_wpAt_MethodCall (pl := ?pl) (ks_wpAt_super_base (f := fI) (cc := cda) rfl rfl (by decide +kernel) rfl (X0 _ _ ho) rfl rfl rfl (X0 _ _ hcode) rfl hvs hfile T.top ?_)))
  refine PySem.W.ks_loadName_global rfl rfl (Calls.loadGlobal_builtin (hg.keeps hk) T.sup (hb.keeps hk) ((hbs _ (by decide +kernel)).trans (show bootBuiltins "super" = some (.type "super") by decide +kernel)) ⟨rfl, ?_⟩)
  refine wpAny_loadName_free rfl rfl rfl ⟨_, X0 _ _ hcell, rfl⟩ ?_
  refine wpAny_loadName_local rfl rfl hns rfl ?_
  refine ks_wpAny_isType_cls hC0 rfl ⟨rfl, ?_⟩
  refine ks_wpAny_call_super hC0 rfl hx0 rfl (fun c z => nomatch z) (PySem.W.looks_mroIn X0 T.own) (fun h1 e1 k1 => ?_)
  have X1 : K.In h1 := X0.keeps k1
  have hx1 := k1 _ _ hx0
  have hxC : x ≠ C := fun z => by
    rw [z, hC] at hnx
    cases hnx
  have hup := T.up
  unfold PySem.W.ks_superIn at hup
  rw [hcl, Option.bind_some] at hup
  have I1 : PySem.W.InstAt h1 x (eo C t0 none) C none := ⟨hx1, rfl, rfl, trivial⟩
  refine PySem.W.kxs_getMethod PySem.W.kxs_ValueError (x := x) (D := C) (C := C) e1 (PySem.W.looks_opaque X1 T.opq) (l₀ := .ref C :: bm) (fun A Q E s k q => wpAny_bind ((PySem.W.looks_clsIn X1 hcl) A _ E s k (wpAny_pure q))) rfl X1 hup (I1.type.andThen (PySem.W.looks_subIn X1 T.veC)) hxC (by decide +kernel) ?_
  -- the bound __init__ is called with the text
  have k2 : ∀ b o, h1.get? b = some o → (h1.push (PySem.W.kxs_mw "ValueError.__init__" x)).get? b = some o := fun b o e => Heap.get?_push_of_some _ e
  have hu : (h1.push (PySem.W.kxs_mw "ValueError.__init__" x)).get? h1.objs.size = some (PySem.W.kxs_mw "ValueError.__init__" x) := Heap.get?_push_at rfl rfl
  refine PySem.W.kxs_callWith (i := "ValueError.__init__") (x := x) rfl ?_
  refine Calls.evalArgs_plain (Calls.spliced_cons (Calls.Constant_str (k := 0) (pos := ⟨0, 0, 0, 0⟩) (Calls.spliced_nil ⟨hu, ?_⟩)))
  refine up_call T (X1.keeps k2) (k2 _ _ hx1) hu (by show 1 ≤ sizeLine; decide) (fun h2 t1 k3 e3 => ?_)
  -- self.path = path
  have hns2 : h2.Ns hp.objs.size (fun y => List.lookup y [(("self" : Str), Value.ref x), (("path" : Str), v)].reverse) := by
    obtain ⟨oL, es, ep, hL, r⟩ := hns
    have hLx : hp.objs.size ≠ x := fun z => Nat.lt_irrefl _ (z ▸ Heap.lt_size hx)
    exact ⟨oL, es, ep, k3 _ _ hLx (k2 _ _ (k1 _ _ hL)), r⟩
  have kk : ∀ b o, b ≠ x → hp.get? b = some o → h2.get? b = some o := fun b o hb e => k3 b o hb (k2 b o (k1 b o (hk b o e)))
  have X2 : K.In h2 := kept_but X hnx kk
  refine ks_wpAt_execs_cons (wpAt_of_wpAny (plainObj_wpAny_Assign_Attribute ?_))
  refine wpAny_Name (wpAny_loadName_local rfl rfl hns2 (v := v) (by first | rfl | kernel_rfl) ?_) (by decide +kernel)
  refine wpAny_Name (wpAny_loadName_local rfl rfl hns2 (v := .ref x) (by first | rfl | kernel_rfl) ?_) (by decide +kernel)
  refine PySem.W.set_plain X2 (ox := eo C t1 none) (od := none) ⟨e3, rfl, rfl, trivial⟩ T.sa ?_
  refine HandSPX.exc_osa X2 e3 hcl hbm rfl T.noN (fun h3 tk3 dx k4 dn dne hx3 hn3 => ?_)
  refine wpAt_of_wpAny (wpAny_execs_nil ?_)
  exact hq h3 tk3 t1 dx (fun b o hb e => k4 b o hb (kk b o hb e)) hx3
end
section
variable {X : Cx} {C fI cc cda : Addr}
/-- InvalidExpr(e) -/
def tMkInv (C : Addr) (ta : TA) : L2.St → Hp → XK → Prop := fun σ H Q => ta σ H fun vs H1 => ∃ v, vs = [v] ∧ ∀ d, Q (.ref C) d H1
theorem pmk_inv {a : Expr} {ta : TA} {p pos : Pos} {k : Nat} (T : InvTxt X.prog X.K X.mg C fI cc cda) (hr : Room k X.A) (ha : PA X [a] ta) (hg : Gl X "InvalidExpr" := by rfl)
    (he : starEach (a :: []) X.env = (false, eval a X.env) :: starEach [] X.env := by rfl) (hpl : (backTo pos (starEach [] X.env)).any (·.1) = false := by rfl) :
    PMk X (.Call (.Name "InvalidExpr" p) [a] [] pos) (tMkInv C ta) := by
  intro pins s σ H Q I h
  refine wpAny_Call_Name_kw (ld_glob I hg T.gC ?_)
  refine PySem.W.callWith_K (h₀ := X.base) I.ok.mod.kin T.kC (thn (ha.run pos pins s σ H _ I h) fun us s1 hh => ?_) he hpl
  obtain ⟨vs, H1, I1, r1, v, ev, q1⟩ := hh
  subst ev
  refine ⟨I1.kIn, ?_⟩
  cases r1 with
  | cons rv rn =>
    rename_i v' us'
    cases rn
    show wpAny _ _ (call (.ref C) [v']) _ _ _
    have hlim := I1.nolimit
    have XK := I1.kIn
    have hgl := I1.mod.glob.keeps I1.bk
    obtain ⟨mb, hbl, hbs⟩ := I1.mod.blt
    have hbl := hbl.keeps I1.bk
    obtain ⟨nm, q, N, bs, bm, sn, sub, ab, col, dd, k0, k1, k2, k3, k5, hC, hbm⟩ := T.cls
    obtain ⟨hp, g, d, tk, os⟩ := s1
    have kk : ∀ b o, hp.get? b = some o → ((hp.push (PySem.W.kdv_tup [v'])).push (HandSPX.excO C hp.objs.size)).get? b = some o := fun b o e => Heap.get?_push_of_some _ (Heap.get?_push_of_some _ e)
    have hget : ((hp.push (PySem.W.kdv_tup [v'])).push (HandSPX.excO C hp.objs.size)).get? (hp.objs.size + 1) = some (HandSPX.excO C hp.objs.size) := by heap_get
    have far : ∀ {b : Addr} {o : Obj}, hp.get? b = some o → b ≠ hp.objs.size + 1 := fun {b o} e => Nat.ne_of_lt (Nat.lt_succ_of_lt (Heap.lt_size e))
    have hnx : X.K.lookup (hp.objs.size + 1) = none := by
      cases e : X.K.lookup (hp.objs.size + 1) with
      | none => rfl
      | some o => exact absurd rfl (far (XK _ _ e))
    have hgx : hp.objs.size + 1 ≠ mainGlobals := by
      obtain ⟨o, _, _, e, _⟩ := hgl
      exact (far e).symm
    have hbx : hp.objs.size + 1 ≠ builtinsNs := by
      obtain ⟨o, _, _, e, _⟩ := hbl
      exact (far e).symm
    refine wpAny_call (HandSPX.call_own F.excBase_ValueError (fun Y => HandSPX.refsVE_contains Y bm hbm) (XK _ _ hC) (PySem.W.looks_findIn XK T.iC) (fun self => PySem.W.bind_fn XK self T.tC) (by show 1 ≤ sizeLine; decide) ?_)
    refine inv_init (s := ⟨(hp.push (PySem.W.kdv_tup [v'])).push (HandSPX.excO C hp.objs.size), g, d, tk, os⟩) T (XK.keeps kk) (hlim.keeps kk) (hgl.keeps kk) (hbl.keeps kk) hbs hget hnx hgx hbx ?_ (fun h' tk' t1 dx k4 hx4 => ?_)
    · show X.A.depth + 1 < recursionLimit
      have := hr.dp
      omega
    · refine ⟨rfl, ?_⟩
      refine ⟨hp.objs.size + 1, _, _, ⟨hp, g, d, tk, os⟩, H1, .ref C, some dx, rfl, I1, fun b o e => k4 b o (far e) (kk b o e), ?_, hx4, ⟨rfl, rfl⟩, rfl, rfl, I1.hok.fresh (Nat.le_succ _), rfl, I1.bare, raises_own T.exC T.tyC, q1 _⟩
      exact Heap.get?_none_of_le (Nat.le_succ _)
end
end K4
/-! K7: check_expr. -/
namespace K4
open PySem PySem.Spec PyProof.Rows L2
theorem chk_kids (ws ss : List Str) (e : Ex Str) : chk ws ss e = (nodeOk ws ss e && (kids e).all fun k => chk ws ss k) := by
  cases e with
  | word w =>
    show decide (w ∈ ws) = (decide (w ∈ ws) && true)
    rw [Bool.and_true]
  | slot s =>
    show decide (s ∈ ss) = (decide (s ∈ ss) && true)
    rw [Bool.and_true]
  | map row e =>
    show (rowOk ws row && chk ws ss e) = (rowOk ws row && (chk ws ss e && true))
    rw [Bool.and_true]
  | pair sq e f =>
    show (sqOk ws sq && (chk ws ss e && chk ws ss f)) = (sqOk ws sq && (chk ws ss e && (chk ws ss f && true)))
    rw [Bool.and_true]
theorem deep_kids {e k : Ex Str} (h : k ∈ kids e) : k.deep + 1 ≤ e.deep := by
  cases e with
  | word w => cases h
  | slot s => cases h
  | map row e =>
    rw [List.mem_singleton.mp h]
    show e.deep + 1 ≤ 1 + e.deep
    omega
  | pair sq e f =>
    have : 1 + max e.deep f.deep = (Ex.pair sq e f).deep := rfl
    rw [← this]
    rcases List.mem_cons.mp h with rfl | h
    · omega
    · rw [List.mem_singleton.mp h]
      omega
/-- what waits: a node with a path of some length -/
def WtR (H : Hp) (v : V) (p : Ex Str × Nat) : Prop := ∃ (c q : Addr) (x : V) (ps : List V), v = .ref c ∧ H c = some (.tup [x, .ref q]) ∧ ExR H x p.1 ∧ H q = some (.tup ps) ∧ ps.length = p.2
theorem WtR.mono {H H' : Hp} (k : TK H H') {v : V} {p : Ex Str × Nat} (h : WtR H v p) : WtR H' v p := by
  obtain ⟨c, q, x, ps, e, h1, h2, h3, h4⟩ := h
  exact ⟨c, q, x, ps, e, k.tup h1, h2.mono k, k.tup h3, h4⟩
def totP (l : List (Ex Str × Nat)) : Nat := tot (l.map (·.1))
theorem totP_cons (p : Ex Str × Nat) (l : List (Ex Str × Nat)) : totP (p :: l) = p.1.size + totP l := tot_cons _ _
theorem totP_kids (ks : List (Ex Str)) (d : Nat) (st : List (Ex Str × Nat)) : totP (ks.map (fun k => (k, d)) ++ st) = tot ks + totP st := by
  unfold totP
  rw [List.map_append, tot_append, List.map_map]
  congr 2
  exact List.map_id _
/-- other things than lists at one place stay, however that list changes -/
theorem tk_lst {H : Hp} {a : Addr} {xs : List V} (h : H a = some (.lst xs)) (o : HO) : TK H (upd H a o) := fun b u f e => by
  rw [upd_ne (ne_of e h (by rintro rfl; cases f))]
  exact e
structure ChkTxt (P : Program) (K : PySem.W.Frag) (mg : Str → Option Value) (C fI cc cda : Addr) : Prop where
  inv : InvTxt P K mg C fI cc cda
  nodes : ∃ t, mg "MOST_NODES" = some (.int 12 t)
  depth : ∃ t, mg "MOST_DEPTH" = some (.int 6 t)
section
variable {P : Program} {w : World} {K : PySem.W.Frag} {mg : Str → Option Value} {base : Heap} {C fI cc cda : Addr}
theorem scCheck : FnScope ["words", "slots", "value", "waiting", "count", "node", "path", "parts", "at"] ["words", "slots", "value"] (defScope sCheck) := ⟨rfl, rfl, rfl, by decide +kernel, rfl, by decide +kernel, by decide +kernel⟩
def spCheck (C : Addr) : Sp := fun vs H Q E => ∃ (a b : Addr) (x : V) (ws ss : List Str) (e : Ex Str), vs = [.ref a, .ref b, x] ∧ Tw H ws a ∧ Tw H ss b ∧ ExR H x e ∧ e.size ≤ 12 ∧ e.deep ≤ 6 ∧
  (chk ws ss e = true → ∀ H', Same H H' → Q .non H') ∧ (chk ws ss e = false → ∀ H' d, Same H H' → E (.ref C) d H')
/-- between two turns of the while -/
def CkInv (H : Hp) (a b : Addr) (x : V) (ws ss : List Str) (e : Ex Str) (Wa : Addr) (m : Nat) (σ : L2.St) (H' : Hp) : Prop :=
  ∃ (r : List V) (st : List (Ex Str × Nat)) (n : Int) (v1 v2 v3 v4 : Option V), σ = [some (.ref a), some (.ref b), some x, some (.ref Wa), some (.int n), v1, v2, v3, v4] ∧ Same H H' ∧ H' Wa = some (.lst r.reverse) ∧
    Paired (WtR H') r st ∧ m = totP st ∧ 0 ≤ n ∧ n + (totP st : Int) ≤ 12 ∧ (∀ p ∈ st, p.2 + p.1.deep ≤ 6) ∧ chk ws ss e = st.all fun p => chk ws ss p.1
theorem ok_check {f fF : Addr} {fd fdF : FuncData} (F : L2.Fun K "check_expr" "check_expr" sCheck f fd) (B : Blt mg) (T : ChkTxt P K mg C fI cc cda)
    (GF : FnOk P w K mg base CX0 3 fF fdF ["words", "slots", "node"] spFits) (bF : Binds K fdF ["words", "slots", "node"] []) (kF : PySem.W.keepIn K (.ref fF) = true) (mF : mg "node_fits" = some (.ref fF)) :
    FnOk P w K mg base (L2.CX P w) 4 f fd ["words", "slots", "value"] (spCheck C) := by
  obtain ⟨tn, hnodes⟩ := T.nodes
  obtain ⟨td, hdepth⟩ := T.depth
  refine F.okX scCheck (fun vs H Q E h => ?_) (fun cdv A outer s H vs Q E hr h => ?_)
  · obtain ⟨a, b, x, ws, ss, e, rfl, _⟩ := h
    rfl
  obtain ⟨a, b, x, ws, ss, e, rfl, hw, hs, hx, hsz, hdp, qT, qF⟩ := h
  have nd := scCheck.nd
  refine ⟨_, pss_cons (ps_set (i := 3) nd rfl (.inl rfl) (pe_lst (pa_cons (pe_tup (pa_cons (pv 2) (pa_cons (pe_tup pa_nil) pa_nil))) pa_nil)))
    (pss_cons (ps_set (i := 4) nd rfl (.inl rfl) pe_int)
    (pss_one (ps_while (passes_of rfl) (pt_truth (pv 3) (by intro _; rfl))
      (pss_cons (ps_asg (pe_bm0 PySem.F.plainAttrs_list PySem.F.slot_list_pop PySem.F.type_list_pop mt_pop (pv 3)) (pg_tup rfl (pgs_cons (pg_name (i := 5) nd rfl (.inl rfl)) (pgs_cons (pg_name (i := 6) nd rfl (.inl rfl)) pgs_nil))))
      (pss_cons (ps_aug (i := 4) nd rfl (.inl rfl) pe_int ip_add)
      (pss_cons (ps_if (PW.pt (pw_or (pt_cmpR op_gt (pv 4) (pe_glob (v := .int 12) rfl hnodes ⟨_, rfl⟩) (nomark _)) (pw_or (pt_cmpR op_ge (pe_callB call_len_seq rfl B.len PySem.boot_len (pa_cons (pv 6) pa_nil)) (pe_glob (v := .int 6) rfl hdepth ⟨_, rfl⟩) (nomark _))
          (pw_or1 (pt_not (pt_val (pe_call GF hr rfl mF kF bF .nil pass0 (pa_cons (pv 0) (pa_cons (pv 1) (pa_cons (pv 5) pa_nil))))))))))
        (pss_one (ps_raise rfl (takes_of rfl rfl rfl rfl) (pmk_inv T.inv hr (pa_cons (pv 6) pa_nil)))) pss_nil)
      (pss_cons (ps_set (i := 7) nd rfl (.inl rfl) (pe_slice sl_tup (pv 5) (po_some pe_int) po_none))
      (pss_one (ps_for (passes_of rfl) rfl (pi_revR rfl B.rev (prg_1 rfl B.rng (pe_callB call_len_seq rfl B.len PySem.boot_len (pa_cons (pv 7) pa_nil)))) (pg_name (i := 8) nd rfl (.inl rfl))
        (pss_one (ps_expr (pe_bm PySem.F.plainAttrs_list PySem.F.slot_list_append PySem.F.type_list_append mt_append (pv 3)
          (pa_cons (pe_tup (pa_cons (pe_ix ix_tup (pv 7) (pv 8) (fun _ _ => rfl)) (pa_cons (pe_op op_catA (pv 6) (pe_tup (pa_cons (pv 8) pa_nil))) pa_nil))) pa_nil))))))))))))), ?_⟩
  -- waiting = [(value, ())]; count = 0
  refine ⟨_, rfl, by show 0 ≤ sizeLine; decide, fun p0 np0 => ⟨by show 2 ≤ sizeLine; decide, fun c0 nc0 => ⟨by show 1 ≤ sizeLine; decide, fun Wa nWa => ?_⟩⟩⟩
  have s1 : Same H (upd H p0 (.tup [])) := same_new np0 _
  have s2 := s1.trans (same_new nc0 (.tup [x, .ref p0]))
  have s3 := s2.trans (same_new nWa (.lst [.ref c0]))
  have hW0 : H Wa = none := s2.free nWa
  have e1 : (upd (upd (upd H p0 (.tup [])) c0 (.tup [x, .ref p0])) Wa (.lst [.ref c0])) c0 = some (.tup [x, .ref p0]) := same_new nWa _ _ _ upd_same
  have e2 : (upd (upd (upd H p0 (.tup [])) c0 (.tup [x, .ref p0])) Wa (.lst [.ref c0])) p0 = some (.tup []) := same_new nWa _ _ _ (same_new nc0 _ _ _ upd_same)
  refine ⟨CkInv H a b x ws ss e Wa, ⟨totP [(e, 0)], [.ref c0], [(e, 0)], 0, none, none, none, none, rfl, s3, upd_same, .cons ⟨c0, p0, x, [], rfl, e1, hx.mono (tk_same s3), e2, rfl⟩ .nil, rfl, Int.le_refl 0, ?_, ?_, ?_⟩, ?_⟩
  · rw [totP_cons]
    show (0 : Int) + ((e.size + 0 : Nat) : Int) ≤ 12
    omega
  · intro p hp
    rw [List.mem_singleton.mp hp]
    show 0 + e.deep ≤ 6
    omega
  · show chk ws ss e = (chk ws ss e && true)
    rw [Bool.and_true]
  rintro m σ H1 ⟨r, st, n, v1, v2, v3, v4, rfl, sm, eW, hp, rfl, hn0, hn, hd, hc⟩
  refine ⟨_, rfl, _, .inl ⟨_, .of eW, rfl⟩, ?_⟩
  cases hp with
  | nil => exact qT hc H1 sm
  | @cons y pe r' st' hy hp' =>
    obtain ⟨e1, d1⟩ := pe
    have ne : (!(y :: r').reverse.isEmpty) = true := by
      rw [List.reverse_cons]
      cases r'.reverse <;> rfl
    refine iteT' ne ?_
    rw [List.reverse_cons] at eW
    obtain ⟨c, q, x1, ps, rfl, hc1, hx1, hq1, hl1⟩ := hy
    obtain ⟨c2, t, sv, ys, rfl, hnode, hk, hk2, -⟩ := hx1.node
    have hk : Paired (ExR H1) ys (kids e1) := hk
    have hl1 : ps.length = d1 := hl1
    rw [totP_cons] at hn
    have hn : n + ((e1.size + totP st' : Nat) : Int) ≤ 12 := hn
    have hd1' : d1 ≤ 6 := by
      have := hd (e1, d1) (List.mem_cons_self ..)
      have z : d1 + e1.deep ≤ 6 := this
      omega
    have hpos := size_kids e1
    have hd1 : d1 + e1.deep ≤ 6 := hd (e1, d1) (List.mem_cons_self ..)
    have hdp1 := e1.deep_pos
    refine ⟨fun σ' H' => ∃ m', m' < totP ((e1, d1) :: st') ∧ CkInv H a b x ws ss e Wa m' σ' H', fun σ' H' h => h, ?_⟩
    -- node, path = waiting.pop()
    refine ⟨_, rfl, .inl ⟨rfl, _, .of eW⟩, Wa, _, .ref c, rfl, rfl, eW, last_snoc _ _, ?_⟩
    rw [List.dropLast_concat]
    have tk1 : TK H1 (upd H1 Wa (.lst r'.reverse)) := tk_lst eW _
    have sm2 : Same H (upd H1 Wa (.lst r'.reverse)) := fun b o h => by
      rw [upd_ne (ne_of_none h hW0)]
      exact sm b o h
    have eW2 : (upd H1 Wa (.lst r'.reverse)) Wa = some (.lst r'.reverse) := upd_same
    have hc2 := tk1.tup hc1
    have hx2 := hx1.mono tk1
    have hq2 := tk1.tup hq1
    have hn2 := tk1.tup hnode
    have hk' := paired_mono (fun _ _ h => ExR.mono tk1 h) hk
    have hp2 := paired_mono (fun _ _ h => WtR.mono tk1 h) hp'
    generalize upd H1 Wa (.lst r'.reverse) = H2 at tk1 sm2 eW2 hc2 hx2 hq2 hn2 hk' hp2
    refine ⟨c, _, rfl, .of hc2, rfl, _, _, rfl, _, _, rfl, rfl, ?_⟩
    -- count += 1
    refine ⟨_, rfl, _, _, rfl, rfl, ?_⟩
    -- if count > MOST_NODES or len(path) >= MOST_DEPTH or not node_fits(..)
    have hcount : ¬ (12 : Int) < n + 1 := by
      show ¬ (12 : Int) < n + 1
      have hn' : n + ((e1.size + totP st' : Nat) : Int) ≤ 12 := hn
      omega
    have hpath : ¬ (6 : Int) ≤ ((ps.length : Nat) : Int) := by omega
    refine ⟨_, rfl, _, _, rfl, rfl, _, rfl, iteF' (decide_eq_false hcount) ?_⟩
    refine ⟨_, rfl, q, ps, rfl, .inr (.of hq2), _, _, rfl, rfl, _, rfl, iteF' (decide_eq_false hpath) ?_⟩
    refine ⟨_, rfl, _, rfl, _, rfl, a, b, .ref c2, ws, ss, e1, rfl, (tk_same sm2).rd hw, (tk_same sm2).rd hs, hx2, _, rfl, ?_⟩
    have hchk : chk ws ss e = (nodeOk ws ss e1 && ((kids e1).all (fun k => chk ws ss k) && st'.all fun p => chk ws ss p.1)) := by
      rw [hc]
      show (chk ws ss e1 && st'.all fun p => chk ws ss p.1) = _
      rw [chk_kids, Bool.and_assoc]
    cases hok : nodeOk ws ss e1 with
    | false =>
      rw [hok, Bool.false_and] at hchk
      refine iteT' rfl ⟨_, rfl, _, rfl, fun dd => qF hchk H2 dd sm2⟩
    | true =>
      rw [hok, Bool.true_and] at hchk
      refine iteF' rfl ?_
      -- parts = node[2:]
      refine ⟨_, rfl, 2, rfl, c2, _, rfl, .of hn2, whole2 _ _ _, fun P nP => ?_⟩
      rw [cut2]
      have s4 : Same H2 (upd H2 P (.tup ys)) := same_new nP _
      have hP : (upd H2 P (.tup ys)) P = some (.tup ys) := upd_same
      have sm4 := sm2.trans s4
      have eW4 := s4 _ _ eW2
      have hq4 := s4 _ _ hq2
      have hk4 := paired_mono (fun _ _ h => ExR.mono (tk_same s4) h) hk'
      have hp4 := paired_mono (fun _ _ h => WtR.mono (tk_same s4) h) hp2
      generalize upd H2 P (.tup ys) = H4 at s4 hP sm4 eW4 hq4 hk4 hp4
      have hlen := paired_length hk
      -- for at in reversed(range(len(parts)))
      refine ⟨_, rfl, P, ys, rfl, .inr (.of hP), _, rfl, by omega, by omega, by omega, by omega, ?_⟩
      have en : (((ys.length : Nat) : Int) - 0).toNat = ys.length := by omega
      rw [en]
      refine for_rangeC (n := ys.length) (fun i σ H' => ∃ (v : Option V) (rk : List V), σ = [some (.ref a), some (.ref b), some x, some (.ref Wa), some (.int (n + 1)), some (.ref c2), some (.ref q), some (.ref P), v] ∧ Same H H' ∧ TK H4 H' ∧
        H' Wa = some (.lst (rk ++ r').reverse) ∧ Paired (WtR H') rk (((kids e1).drop (ys.length - i)).map fun k => (k, d1 + 1))) ?_ ?_ ?_
      · refine ⟨_, [], rfl, sm4, TK.refl _, eW4, ?_⟩
        rw [Nat.sub_zero, hlen, List.drop_length]
        exact .nil
      · rintro i σ H5 hi ⟨v, rk, rfl, sm5, tk5, eW5, hrk⟩
        obtain ⟨j, hj, hji⟩ : ∃ j, j + 1 + i = ys.length ∧ (0 : Int) + ((ys.length : Nat) : Int) - 1 + ((i : Nat) : Int) * -1 = ((j : Nat) : Int) := ⟨ys.length - 1 - i, by omega, by omega⟩
        rw [hji]
        have hjl : j < ys.length := by omega
        have hyj := List.getElem?_eq_getElem hjl
        obtain ⟨k, hkj, hxk⟩ := paired_get hk4 hyj
        have hP5 := tk5.tup hP
        have hq5 := tk5.tup hq4
        -- the pair's parts: parts[at], path + (at,)
        refine ⟨_, rfl, .inl ⟨rfl, _, .of eW5⟩, _, rfl, _, rfl, P, ys, _, _, rfl, rfl, .of hP5, atI_nat hyj, _, rfl, _, rfl, by show 1 ≤ sizeLine; decide, fun o no => ?_⟩
        have s6 : Same H5 (upd H5 o (.tup [.int ((j : Nat) : Int)])) := same_new no _
        have ho6 : (upd H5 o (.tup [.int ((j : Nat) : Int)])) o = some (.tup [.int ((j : Nat) : Int)]) := upd_same
        -- behind the sum: a path one longer stands at some o2
        have fin : ∀ (H7 : Hp) (o2 : Addr) (ps2 : List V), Same H5 H7 → H7 o2 = some (.tup ps2) → ps2.length = d1 + 1 →
            ([ys[j], V.ref o2] : List V).length ≤ sizeLine ∧ ∀ p, H7 p = none → rAppend (.ref Wa) [.ref p] (upd H7 p (.tup [ys[j], .ref o2])) fun _ H1 =>
              ∃ (v : Option V) (rk : List V), [some (V.ref a), some (.ref b), some x, some (.ref Wa), some (.int (n + 1)), some (.ref c2), some (.ref q), some (.ref P), some (.int ((j : Nat) : Int))] = [some (.ref a), some (.ref b), some x, some (.ref Wa), some (.int (n + 1)), some (.ref c2), some (.ref q), some (.ref P), v] ∧ Same H H1 ∧ TK H4 H1 ∧
                H1 Wa = some (.lst (rk ++ r').reverse) ∧ Paired (WtR H1) rk (((kids e1).drop (ys.length - (i + 1))).map fun k => (k, d1 + 1)) := by
          intro H7 o2 ps2 s7 ho2 hl2
          refine ⟨by show 2 ≤ sizeLine; decide, fun c3 nc3 => ?_⟩
          have s8 := s7.trans (same_new nc3 (.tup [ys[j], .ref o2]))
          refine ⟨Wa, _, _, rfl, rfl, s8 _ _ eW5, ?_, ?_⟩
          · have l1 := paired_length hrk
            have l2 := paired_length hp'
            have l3 := length_tot (st'.map (·.1))
            rw [List.length_map] at l3
            rw [List.length_map, List.length_drop] at l1
            have l4 : totP st' = tot (st'.map (·.1)) := rfl
            rw [List.length_reverse, List.length_append]
            have : rk.length + r'.length ≤ 1000 := by omega
            exact small1000 this
          · refine ⟨_, .ref c3 :: rk, rfl, fun b o h => ?_, ?_, ?_, ?_⟩
            · rw [upd_ne (ne_of_none h hW0)]
              exact s8 _ _ (sm5 _ _ h)
            · exact tk5.trans ((tk_same s8).trans (tk_lst (s8 _ _ eW5) _))
            · rw [upd_same, List.cons_append, List.reverse_cons]
            · have tk9 : TK H5 (upd (upd H7 c3 (.tup [ys[j], .ref o2])) Wa (.lst ((rk ++ r').reverse ++ [.ref c3]))) := (tk_same s8).trans (tk_lst (s8 _ _ eW5) _)
              have tk10 : TK H7 (upd (upd H7 c3 (.tup [ys[j], .ref o2])) Wa (.lst ((rk ++ r').reverse ++ [.ref c3]))) := (tk_same (same_new nc3 _)).trans (tk_lst (s8 _ _ eW5) _)
              have ei : ys.length - (i + 1) = j := by omega
              have ei2 : ys.length - i = j + 1 := by omega
              rw [ei]
              rw [ei2] at hrk
              have hkl : j < (kids e1).length := by omega
              have hkk : (kids e1)[j] = k := by
                rw [List.getElem?_eq_getElem hkl] at hkj
                exact Option.some.inj hkj
              rw [List.drop_eq_getElem_cons hkl, List.map_cons, hkk]
              refine .cons ⟨c3, o2, ys[j], ps2, rfl, tk_lst (s8 _ _ eW5) _ _ _ rfl upd_same, hxk.mono (tk5.trans tk9), tk10.tup ho2, hl2⟩ (paired_mono (fun _ _ h => WtR.mono tk9 h) hrk)
        refine ⟨q, o, ps, _, rfl, rfl, .of (s6 _ _ hq5), .of ho6, ?_, fun z => ?_, fun _ z => (by cases z), fun z _ o2 no2 => ?_⟩
        · show ps.length + 1 ≤ sizeLine
          have : ps.length + 1 ≤ 1000 := by omega
          exact Nat.le_of_lt (small1000 this)
        · have : ps.length = 0 := by rw [z]; rfl
          exact fin _ o _ s6 ho6 (by show 1 = d1 + 1; omega)
        · refine fin _ o2 _ (s6.trans (same_new no2 _)) upd_same ?_
          rw [List.length_append]
          show ps.length + 1 = d1 + 1
          omega
      · rintro σ H5 ⟨v, rk, rfl, sm5, tk5, eW5, hrk⟩
        rw [Nat.sub_self, List.drop_zero] at hrk
        refine ⟨totP ((kids e1).map (fun k => (k, d1 + 1)) ++ st'), ?_, rk ++ r', _, n + 1, _, _, _, _, rfl, sm5, eW5, paired_append hrk (paired_mono (fun _ _ h => WtR.mono tk5 h) hp4), rfl, by omega, ?_, ?_, ?_⟩
        · rw [totP_kids, totP_cons]
          show tot (kids e1) + totP st' < e1.size + totP st'
          omega
        · rw [totP_kids]
          omega
        · intro p hp
          rcases List.mem_append.mp hp with z | z
          · obtain ⟨k, hk3, rfl⟩ := List.mem_map.mp z
            have := deep_kids hk3
            show d1 + 1 + k.deep ≤ 6
            have z2 : d1 + e1.deep ≤ 6 := hd (e1, d1) (List.mem_cons_self ..)
            omega
          · exact hd p (List.mem_cons_of_mem _ z)
        · rw [hchk, List.all_append, List.all_map]
          rfl
end
end K4
/-! K8: all_given, differs_at. -/
namespace K4
open PySem PySem.Spec PyProof.Rows L2
/-- a walk of n turns, by a word of the turn and the heap -/
theorem walk_ex {J : It} {n : Nat} {G : Hp → Prop} {Y : Nat → Hp → V → Hp → Prop} (w : Walk J n G Y) {H0 : Hp} {body : (Hp → Prop) → V → Hp → Prop} {Z : Hp → Prop} (Pv : Nat → Hp → Prop) (h0 : Pv 0 H0) (hG : ∀ i H, i ≤ n → Pv i H → G H)
    (hs : ∀ i x H H', i < n → Pv i H → Y i H x H' → body (Pv (i + 1)) x H') (hd : ∀ H, Pv n H → Z H) :
    ∃ W : Nat → Nat → Hp → Prop, (∃ m, W 0 m H0) ∧ ∀ i m H, W i m H → (J.stop i H ∧ Z H) ∨ (J.go i H ∧ ∃ Nx : Hp → Prop, (∀ H', Nx H' → ∃ m', m' < m ∧ W (i + 1) m' H') ∧ ∀ x H', J.yld i H x H' → body Nx x H') := by
  refine ⟨fun i m H => m = n - i ∧ i ≤ n ∧ Pv i H, ⟨n, by simp, Nat.zero_le _, h0⟩, ?_⟩
  rintro i m H ⟨rfl, hi, p⟩
  have q := hG i H hi p
  by_cases hlt : i < n
  · exact .inr ⟨w.goes i H hlt q, Pv (i + 1), fun H' p' => ⟨n - (i + 1), by omega, rfl, hlt, p'⟩, fun x H' y => hs i x H H' hlt p (w.yields i H x H' hlt q y)⟩
  · have e : i = n := by omega
    subst e
    exact .inl ⟨w.stops H q, hd H p⟩
/-- a value that is given words -/
def GvV (H : Hp) (v : V) (g : List (Str × Str)) : Prop := ∃ a, v = .ref a ∧ GvR H g a
theorem GvV.mono {H H' : Hp} (k : TK H H') {v : V} {g : List (Str × Str)} (h : GvV H v g) : GvV H' v g := let ⟨a, e, q⟩ := h; ⟨a, e, q.mono k⟩
/-- a list of given words -/
def LG (H : Hp) (gs : List (List (Str × Str))) (l : Addr) : Prop := ∃ vs, H l = some (.lst vs) ∧ Paired (GvV H) vs gs
theorem LG.mono {H H' : Hp} (s : Same H H') {gs : List (List (Str × Str))} {l : Addr} (h : LG H gs l) : LG H' gs l := by
  obtain ⟨vs, h1, h2⟩ := h
  exact ⟨vs, s _ _ h1, paired_mono (fun _ _ q => GvV.mono (tk_same s) q) h2⟩
theorem small {n : Nat} (h : n ≤ 1000) : n ≤ sizeLine := Nat.le_of_lt (small1000 h)
/-- given words joined -/
theorem cat_gv {K : PySem.W.Frag} {H : Hp} {a b : Addr} {g1 g2 : List (Str × Str)} {Q : VK} (h1 : GvR H g1 a) (h2 : GvR H g2 b) (hl : g1.length + g2.length ≤ 1000) (q : ∀ (H' : Hp) (r : Addr), Same H H' → GvR H' (g1 ++ g2) r → Q (.ref r) H') :
    rCatA K (.ref a) (.ref b) H Q := by
  obtain ⟨v1, e1, p1⟩ := id h1
  obtain ⟨v2, e2, p2⟩ := id h2
  have l1 := paired_length p1
  have l2 := paired_length p2
  refine ⟨a, b, v1, v2, rfl, rfl, .of e1, .of e2, small (by omega), fun z => ?_, fun _ z => ?_, fun _ _ p np => ?_⟩
  · subst z
    cases p1
    exact q H b (Same.refl H) h2
  · subst z
    cases p2
    refine q H a (Same.refl H) ?_
    rw [List.append_nil]
    exact h1
  · have s := same_new np (.tup (v1 ++ v2))
    refine q _ p s ⟨v1 ++ v2, upd_same, ?_⟩
    exact paired_append (paired_mono (fun v x ⟨c, e, t⟩ => ⟨c, e, s _ _ t⟩) p1) (paired_mono (fun v x ⟨c, e, t⟩ => ⟨c, e, s _ _ t⟩) p2)
/-- ((slot, word),) just made -/
theorem one_gv {H : Hp} {p q : Addr} {s u : Str} (hp : H p = some (.tup [.str s, .str u])) (hq : H q = some (.tup [.ref p])) : GvR H [(s, u)] q := ⟨_, hq, .cons ⟨p, rfl, hp⟩ .nil⟩
theorem gRow_snoc (ws : List Str) (rows : List (List (Str × Str))) (r : List (Str × Str)) (s : Str) : gRow ws (rows ++ [r]) s = gRow ws rows s ++ ws.map fun w => r ++ [(s, w)] := by
  unfold gRow
  rw [List.flatMap_append, List.flatMap_cons, List.flatMap_nil, List.append_nil]
theorem pow3 {n m : Nat} (h : n ≤ 3) (h2 : m ≤ 6) : n ^ m ≤ 729 := Nat.le_trans (Nat.pow_le_pow_left h m) (Nat.pow_le_pow_right (by decide) h2)
section
variable {P : Program} {w : World} {K : PySem.W.Frag} {mg : Str → Option Value} {base : Heap}
/-! ### all_given -/
theorem scAll : FnScope ["words", "slots", "rows", "slot", "row", "word"] ["words", "slots"] (defScope sAll) := ⟨rfl, rfl, rfl, by decide +kernel, rfl, by decide +kernel, by decide +kernel⟩
def spAll (K : PySem.W.Frag) : Sp := fun vs H Q _ => ∃ (a b : Addr) (ws ss : List Str), vs = [.ref a, .ref b] ∧ Tw H ws a ∧ Tw H ss b ∧ ws.length ≤ 3 ∧ ss.length ≤ 6 ∧
  ∀ (H' : Hp) (l : Addr), Same H H' → H l = none → LG H' (allG ws ss) l → Q (.ref l) H'
theorem ok_all {f : Addr} {fd : FuncData} (F : L2.Fun K "all_given" "all_given" sAll f fd) : FnOk P w K mg base CX0 1 f fd ["words", "slots"] (spAll K) := by
  refine F.ok scAll (fun vs H Q E h => ?_) (fun cdv A outer s H vs Q E hr h => ?_)
  · obtain ⟨a, b, ws, ss, rfl, _⟩ := h
    rfl
  obtain ⟨a, b, ws, ss, rfl, hw, hs, hwl, hsl, q⟩ := h
  have nd := scAll.nd
  refine ⟨_, pss_cons (ps_set (i := 2) nd rfl (.inl rfl) (pe_lst (pa_cons (pe_tup pa_nil) pa_nil)))
    (pss_cons (ps_for PassesOwn.never rfl (pi_tup (pv 1)) (pg_name (i := 3) nd rfl (.inr rfl))
      (pss_one (ps_setLc2 (i := 2) (own := [("row", 4), ("word", 5)]) (vs1 := [5]) (g := gName 4) (tt := tYes) (g1 := gName 5) (tt1 := tYes) rfl nd rfl rfl (sw_true rfl rfl rfl (by decide +kernel)) (pi_list (pv 2))
        (blkOk_by (own := [("row", 4), ("word", 5)]) (N := ["words", "slots", "rows", "slot", "row", "word"]) (sc := defScope sAll) (by decide +kernel)) (by decide)
        (fun _ _ _ _ _ => pg_name (i := 4) nd rfl (.inl rfl)) (fun _ _ _ _ _ => pts_nil)
        (wi1 := iTup K (tVar 0)) (fun _ _ _ _ _ => by exact pi_tup (pv 0)) (fun _ _ _ _ _ => pg_name (i := 5) nd rfl (.inl rfl)) (fun _ _ _ _ _ => pts_nil)
        (fun _ _ _ _ _ => pe_op (r := rCatA K) op_catA (pv 4) (pe_tup (pa_cons (pe_tup (pa_cons (pv 3) (pa_cons (pv 5) pa_nil))) pa_nil))))))
    (pss_one (ps_ret (pv 2)))), ?_⟩
  -- rows = [()]
  refine ⟨by show 0 ≤ sizeLine; decide, fun p0 np0 => ⟨by show 1 ≤ sizeLine; decide, fun l0 nl0 => ?_⟩⟩
  have s1 : Same H (upd H p0 (.tup [])) := same_new np0 _
  have s2 := s1.trans (same_new nl0 (.lst [.ref p0]))
  have e0 : (upd (upd H p0 (.tup [])) l0 (.lst [.ref p0])) p0 = some (.tup []) := same_new nl0 _ _ _ upd_same
  -- for slot in slots
  refine ⟨_, rfl, b, rfl, ⟨_, .inl ((tk_same s2).rd hs)⟩, for_tup (K := K) (a := b) (xs := ss.map V.str) (fun i σ H' => ∃ (l : Addr) (v : Option V), σ = [some (.ref a), some (.ref b), some (.ref l), v, none, none] ∧ Same H H' ∧ H l = none ∧
    LG H' ((ss.take i).foldl (gRow ws) [[]]) l) ⟨l0, none, rfl, s2, s1.free nl0, [.ref p0], upd_same, .cons ⟨p0, rfl, [], e0, .nil⟩ .nil⟩ (fun i σ H' _ ⟨_, _, _, sm, _⟩ => .inl ((tk_same sm).rd hs)) ?_ ?_⟩
  · rintro i x σ H1 hi ⟨l, v, rfl, sm, nl, hl⟩
    obtain ⟨z, hz, rfl⟩ := get_map_str hi
    have hi2 : i < ss.length := (List.getElem?_eq_some_iff.mp hz).1
    obtain ⟨rs, hrs, hrp⟩ := id hl
    have hlen := paired_length hrp
    have hrows : rs.length = ws.length ^ i := by
      rw [hlen, allFold_length, List.length_take, Nat.min_eq_left (Nat.le_of_lt hi2)]
      show 1 * _ = _
      rw [Nat.one_mul]
    have hb1 : rs.length * ws.length ≤ 729 := by
      rw [hrows, ← Nat.pow_succ]
      exact pow3 hwl (by omega)
    -- rows = [.. for row in rows for word in words]
    refine ⟨_, rfl, l, rfl, ⟨_, .of hrs⟩, fun D nD => ?_⟩
    have nDl : l ≠ D := ne_of_none hrs nD
    refine walk_ex (walk_list (K := K) (a := l) (xs := rs)) (fun i' H' => ∃ acc, (∀ c o, H1 c = some o → H' c = some o) ∧ H' D = some (.lst acc) ∧ Paired (GvV H') acc (gRow ws (((ss.take i).foldl (gRow ws) [[]]).take i') z)) ?_ (fun i' H' _ ⟨_, sm', _⟩ => .of (sm' _ _ hrs)) ?_ ?_
    · exact ⟨[], same_new nD _, upd_same, .nil⟩
    · rintro i' x' H2 H2' hi' ⟨acc, sm2, eD, hacc⟩ ⟨rfl, hx'⟩
      obtain ⟨row, hrow, ra, rfl, hra⟩ := paired_get hrp hx'
      refine ⟨rfl, ?_⟩
      have sH2 : Same H H2' := sm.trans sm2
      refine ⟨_, rfl, a, rfl, ⟨_, .inl ((tk_same sH2).rd hw)⟩, ?_⟩
      have hra2 := hra.mono (tk_same sm2)
      have hlacc := paired_length hacc
      rw [gRow_length, List.length_take, Nat.min_eq_left (by omega)] at hlacc
      refine walk_ex (walk_tup (K := K) (a := a) (xs := ws.map V.str)) (fun j H' => ∃ acc', (∀ c o, H1 c = some o → H' c = some o) ∧ H' D = some (.lst acc') ∧ Paired (GvV H') acc' (gRow ws (((ss.take i).foldl (gRow ws) [[]]).take i') z ++ (ws.take j).map fun w => row ++ [(z, w)])) ?_ (fun j H' _ ⟨_, sm', _⟩ => .inl ((tk_same (sm.trans sm')).rd hw)) ?_ ?_
      · exact ⟨acc, sm2, eD, by rw [List.take_zero, List.map_nil, List.append_nil]; exact hacc⟩
      · rintro j x3 H3 H3' hj ⟨acc', sm3, eD3, hacc'⟩ ⟨rfl, hx3⟩
        obtain ⟨u, hu, rfl⟩ := get_map_str hx3
        refine ⟨rfl, ?_⟩
        have hra3 := hra.mono (tk_same sm3)
        refine ⟨_, rfl, _, rfl, _, rfl, by show 2 ≤ sizeLine; decide, fun p1 np1 => ⟨by show 1 ≤ sizeLine; decide, fun p2 np2 => ?_⟩⟩
        have k1 : Same H3' (upd H3' p1 (.tup [.str z, .str u])) := same_new np1 _
        have k2 := k1.trans (same_new np2 (.tup [.ref p1]))
        have g1 : GvR (upd (upd H3' p1 (.tup [.str z, .str u])) p2 (.tup [.ref p1])) [(z, u)] p2 := one_gv (same_new np2 _ _ _ upd_same) upd_same
        have hrl : row.length ≤ 6 := by
          have hm : row ∈ (ss.take i).foldl (gRow ws) [[]] := List.mem_of_getElem? hrow
          have := (allG_mem (ss := ss.take i) hm).1
          have h2 := congrArg List.length this
          rw [List.length_map, List.length_take] at h2
          omega
        refine cat_gv (hra3.mono (tk_same k2)) g1 (by show row.length + 1 ≤ 1000; omega) fun H4 r4 s4 hg4 => ?_
        have k3 := k2.trans s4
        have hl2 := paired_length hacc'
        rw [List.length_append, gRow_length, List.length_take, Nat.min_eq_left (by omega), List.length_map, List.length_take] at hl2
        refine ⟨acc', k3 _ _ eD3, ?_, acc' ++ [.ref r4], fun c o h => ?_, upd_same, ?_⟩
        · have hj2 : j < ws.length := by
            rw [List.length_map] at hj
            exact hj
          have m1 : (i' + 1) * ws.length ≤ rs.length * ws.length := Nat.mul_le_mul_right _ hi'
          rw [Nat.add_mul] at m1
          have : acc'.length ≤ 1000 := by omega
          exact small1000 this
        · rw [upd_ne (ne_of_none h nD)]
          exact k3 _ _ (sm3 _ _ h)
        · have tk : TK H4 (upd H4 D (.lst (acc' ++ [.ref r4]))) := tk_lst (k3 _ _ eD3) _
          rw [List.take_add_one, hu, List.map_append, ← List.append_assoc]
          exact paired_append (paired_mono (fun _ _ h => GvV.mono ((tk_same k3).trans tk) h) hacc') (.cons ⟨r4, rfl, hg4.mono tk⟩ .nil)
      · rintro H3 ⟨acc', sm3, eD3, hacc'⟩
        refine ⟨acc', sm3, eD3, ?_⟩
        rw [List.length_map, List.take_length] at hacc'
        rw [List.take_add_one, hrow]
        show Paired (GvV H3) acc' (gRow ws (_ ++ [row]) z)
        rw [gRow_snoc]
        exact hacc'
    · rintro H2 ⟨acc, sm2, eD, hacc⟩
      refine ⟨D, _, rfl, sm.trans sm2, sm.free nD, acc, eD, ?_⟩
      rw [hlen, List.take_length] at hacc
      rw [List.take_add_one, hz, List.foldl_append]
      exact hacc
  · rintro σ H1 ⟨l, v, rfl, sm, nl, hl⟩
    rw [List.length_map, List.take_length] at hl
    exact ⟨_, rfl, q H1 l sm nl hl⟩
end
end K4
/-! K9: differs_at. -/
namespace K4
open PySem PySem.Spec PyProof.Rows L2
theorem paired_take {α β : Type} {F : α → β → Prop} : ∀ (n : Nat) {l : List α} {m : List β}, Paired F l m → Paired F (l.take n) (m.take n)
  | 0, _, _, _ => .nil
  | _ + 1, _, _, .nil => .nil
  | n + 1, _, _, .cons r t => .cons r (paired_take n t)
theorem paired_drop {α β : Type} {F : α → β → Prop} : ∀ (n : Nat) {l : List α} {m : List β}, Paired F l m → Paired F (l.drop n) (m.drop n)
  | 0, _, _, h => h
  | _ + 1, _, _, .nil => .nil
  | n + 1, _, _, .cons _ t => paired_drop n t
/-- t[:k] -/
theorem cut_to {k : Nat} {vs : List V} (h : k ≤ vs.length) : cutV vs none (some (k : Int)) = vs.take k := by
  unfold cutV
  rw [HT.sIx_none, HT.sIx_nat, Nat.min_eq_left h, List.drop_zero, Nat.sub_zero]
/-- t[k:] -/
theorem cut_from {k : Nat} {vs : List V} (h : k ≤ vs.length) : cutV vs (some (k : Int)) none = vs.drop k := by
  unfold cutV
  rw [HT.sIx_none, HT.sIx_nat, Nat.min_eq_left h]
  exact List.take_of_length_le (by rw [List.length_drop]; exact Nat.le_refl _)
section
variable {P : Program} {w : World} {K : PySem.W.Frag} {mg : Str → Option Value} {base : Heap}
theorem scDiff : FnScope ["words", "expr", "slots", "at", "given", "first", "word", "changed"] ["words", "expr", "slots", "at"] (defScope sDiff) := ⟨rfl, rfl, rfl, by decide +kernel, rfl, by decide +kernel, by decide +kernel⟩
/-- every choice of words for these slots gives a value -/
def Evs (ws ss : List Str) (e : Ex Str) : Prop := ∀ g : List (Str × Str), g.map (·.1) = ss → (∀ p ∈ g, p.2 ∈ ws) → ∃ u, ev ws g e = some u
def spDiff (K : PySem.W.Frag) (n : Nat) : Sp := fun vs H Q _ => ∃ (a b : Addr) (x : V) (i : Nat) (ws ss : List Str) (e : Ex Str) (s : Str), vs = [.ref a, x, .ref b, .int (i : Int)] ∧ Wd H ws a ∧ ExR H x e ∧ Tw H ss b ∧ ws.length ≤ 3 ∧ ss.length ≤ 6 ∧ e.deep ≤ n ∧
  ss[i]? = some s ∧ Evs ws ss e ∧ ∀ H', Same H H' → Q (.bl (differs ws e ss i s)) H'
theorem ok_diff {n : Nat} {f fA fV : Addr} {fd fdA fdV : FuncData} (F : L2.Fun K "differs_at" "differs_at" sDiff f fd) (GA : FnOk P w K mg base CX0 1 fA fdA ["words", "slots"] (spAll K)) (bA : Binds K fdA ["words", "slots"] []) (kA : PySem.W.keepIn K (.ref fA) = true) (mA : mg "all_given" = some (.ref fA))
    (GV : FnOk P w K mg base CX0 (n + 1) fV fdV ["words", "expr", "given"] (spVal n)) (bV : Binds K fdV ["words", "expr", "given"] []) (kV : PySem.W.keepIn K (.ref fV) = true) (mV : mg "value" = some (.ref fV)) :
    FnOk P w K mg base CX0 (n + 2) f fd ["words", "expr", "slots", "at"] (spDiff K n) := by
  refine F.ok scDiff (fun vs H Q E h => ?_) (fun cdv A outer s H vs Q E hr h => ?_)
  · obtain ⟨a, b, x, i, ws, ss, e, z, rfl, _⟩ := h
    rfl
  obtain ⟨a, b, x, i, ws, ss, e, z, rfl, hw, hx, hs, hwl, hsl, hd, hz, hev, q⟩ := h
  have nd := scDiff.nd
  have hr1 : Room 1 _ := hr.mono (by omega)
  refine ⟨_, pss_cons (ps_for PassesOwn.never rfl (pi_list (pe_call GA hr1 rfl mA kA bA .nil pass0 (pa_cons (pv 0) (pa_cons (pv 2) pa_nil)))) (pg_name (i := 4) nd rfl (.inl rfl))
      (pss_cons (ps_set (i := 5) nd rfl (.inl rfl) (pe_call GV hr rfl mV kV bV .nil pass0 (pa_cons (pv 0) (pa_cons (pv 1) (pa_cons (pv 4) pa_nil)))))
      (pss_one (ps_for PassesOwn.never rfl (pi_tup (pv 0)) (pg_name (i := 6) nd rfl (.inl rfl))
        (pss_cons (ps_set (i := 7) nd rfl (.inl rfl) (pe_op op_catA (pe_op op_catA (pe_slice sl_tup (pv 4) po_none (po_some (pv 3)))
            (pe_tup (pa_cons (pe_tup (pa_cons (pe_ix ix_tup (pv 2) (pv 3) (fun _ _ => rfl)) (pa_cons (pv 6) pa_nil))) pa_nil))) (pe_slice sl_tup (pv 4) (po_some (pe_op op_add (pv 3) pe_int)) po_none)))
        (pss_one (ps_if (pt_cmpR op_ne (pe_call GV hr rfl mV kV bV .nil pass0 (pa_cons (pv 0) (pa_cons (pv 1) (pa_cons (pv 7) pa_nil)))) (pv 5) (nomark _)) (pss_one (ps_ret pe_bl)) pss_nil)))))))
    (pss_one (ps_ret pe_bl)), ?_⟩
  have hil : i < ss.length := (List.getElem?_eq_some_iff.mp hz).1
  -- for given in all_given(words, slots)
  refine ⟨_, rfl, _, rfl, a, b, ws, ss, rfl, hw.tw, hs, hwl, hsl, fun H1 l s1 nl hl => ?_⟩
  obtain ⟨gs, hgs, hgp⟩ := id hl
  have hglen := paired_length hgp
  refine ⟨l, rfl, ⟨_, .of hgs⟩, for_list (K := K) (a := l) (xs := gs) (fun k σ H' => ∃ v4 v5 v6 v7, σ = [some (.ref a), some x, some (.ref b), some (.int (i : Int)), v4, v5, v6, v7] ∧ Same H1 H' ∧
      ∀ g ∈ (allG ws ss).take k, (ws.any fun w => decide (ev ws (putAt g i (z, w)) e ≠ ev ws g e)) = false) ⟨_, _, _, _, rfl, Same.refl _, by simp⟩ (fun k σ H' _ ⟨_, _, _, _, _, sm, _⟩ => .of (sm _ _ hgs)) ?_ ?_⟩
  · rintro k x4 σ H2 hk ⟨v4, v5, v6, v7, rfl, sm2, hno⟩
    obtain ⟨g, hgk, ga, rfl, hga⟩ := paired_get hgp hk
    have hmem : g ∈ allG ws ss := List.mem_of_getElem? hgk
    obtain ⟨g1, g2⟩ := allG_mem hmem
    have hgl : g.length = ss.length := by
      have := congrArg List.length g1
      rw [List.length_map] at this
      exact this
    obtain ⟨u, hu⟩ := hev g g1 g2
    have tk2 : TK H H2 := tk_same (s1.trans sm2)
    have hga2 := hga.mono (tk_same sm2)
    -- first = value(words, expr, given)
    refine ⟨_, rfl, _, rfl, _, rfl, a, ga, x, ws, e, g, u, rfl, hw.mono tk2, hx.mono tk2, hga2, hd, hu, ?_⟩
    -- for word in words
    refine ⟨_, rfl, a, rfl, ⟨_, .inl (tk2.rd hw.tw)⟩, for_tup (K := K) (a := a) (xs := ws.map V.str) (fun j σ H' => ∃ v6 v7, σ = [some (.ref a), some x, some (.ref b), some (.int (i : Int)), some (.ref ga), some (.str u), v6, v7] ∧ Same H2 H' ∧
      ∀ w ∈ ws.take j, decide (ev ws (putAt g i (z, w)) e ≠ ev ws g e) = false) ⟨_, _, rfl, Same.refl _, by simp⟩ (fun j σ H' _ ⟨_, _, _, sm, _⟩ => .inl ((tk2.trans (tk_same sm)).rd hw.tw)) ?_ ?_⟩
    · rintro j x6 σ H3 hj ⟨v6, v7, rfl, sm3, hno3⟩
      obtain ⟨y, hy, rfl⟩ := get_map_str hj
      have tk3 : TK H H3 := tk2.trans (tk_same sm3)
      have hga3 := hga2.mono (tk_same sm3)
      obtain ⟨vs, hvs, hvp⟩ := id hga3
      have hvl := paired_length hvp
      have hi1 : i ≤ vs.length := by omega
      have hi2 : i + 1 ≤ vs.length := by omega
      -- given[:at]
      refine ⟨_, rfl, _, rfl, (i : Int), rfl, ga, vs, rfl, .of hvs, ?_, fun p1 np1 => ?_⟩
      · rintro ⟨_, z2⟩
        rw [HT.sIx_nat, Nat.min_eq_left hi1] at z2
        omega
      rw [cut_to hi1]
      have k1 : Same H3 (upd H3 p1 (.tup (vs.take i))) := same_new np1 _
      have gv1 : GvR (upd H3 p1 (.tup (vs.take i))) (g.take i) p1 := ⟨_, upd_same, paired_take i (paired_mono (fun v x ⟨c, e, t⟩ => ⟨c, e, k1 _ _ t⟩) hvp)⟩
      generalize upd H3 p1 (.tup (vs.take i)) = H4 at k1 gv1
      have tk4 : TK H H4 := tk3.trans (tk_same k1)
      -- ((slots[at], word),)
      refine ⟨_, rfl, _, rfl, b, ss.map V.str, _, .str z, rfl, rfl, .inl (tk4.rd hs), atI_nat (by rw [List.getElem?_map, hz]; rfl), _, rfl, by show 2 ≤ sizeLine; decide, fun p2 np2 => ⟨by show 1 ≤ sizeLine; decide, fun p3 np3 => ?_⟩⟩
      have k2 : Same H4 (upd H4 p2 (.tup [.str z, .str y])) := same_new np2 _
      have k3 := k2.trans (same_new np3 (.tup [.ref p2]))
      have gv2 : GvR (upd (upd H4 p2 (.tup [.str z, .str y])) p3 (.tup [.ref p2])) [(z, y)] p3 := one_gv (same_new np3 _ _ _ upd_same) upd_same
      refine cat_gv (gv1.mono (tk_same k3)) gv2 ?_ fun H5 r5 s5 hg5 => ?_
      · rw [List.length_take]
        show min i g.length + 1 ≤ 1000
        omega
      -- given[at + 1:]
      have k5 := k1.trans (k3.trans s5)
      have hvs5 := k5 _ _ hvs
      refine ⟨_, rfl, _, rfl, _, _, rfl, rfl, _, rfl, ga, vs, rfl, .of hvs5, ?_, fun p6 np6 => ?_⟩
      · rintro ⟨z2, _⟩
        rw [show ((i : Int) + 1) = ((i + 1 : Nat) : Int) from rfl, HT.sIx_nat, Nat.min_eq_left hi2] at z2
        omega
      rw [show ((i : Int) + 1) = ((i + 1 : Nat) : Int) from rfl, cut_from hi2]
      have k6 : Same H5 (upd H5 p6 (.tup (vs.drop (i + 1)))) := same_new np6 _
      have k7 := k5.trans k6
      have gv6 : GvR (upd H5 p6 (.tup (vs.drop (i + 1)))) (g.drop (i + 1)) p6 := ⟨_, upd_same, paired_drop (i + 1) (paired_mono (fun v x ⟨c, e, t⟩ => ⟨c, e, k7 _ _ t⟩) hvp)⟩
      refine cat_gv (hg5.mono (tk_same k6)) gv6 ?_ fun H7 r7 s7 hg7 => ?_
      · rw [List.length_append, List.length_take, List.length_drop]
        show min i g.length + 1 + (g.length - (i + 1)) ≤ 1000
        omega
      have k8 : Same H3 H7 := k7.trans s7
      have tk8 : TK H H7 := tk3.trans (tk_same k8)
      have hyw : y ∈ ws := List.mem_of_getElem? hy
      obtain ⟨u2, hu2⟩ := hev (putAt g i (z, y)) (putAt_fst g1 hz) (putAt_wd g2 hyw)
      -- if value(words, expr, changed) != first
      refine ⟨_, rfl, _, rfl, _, rfl, a, r7, x, ws, e, putAt g i (z, y), u2, rfl, hw.mono tk8, hx.mono tk8, hg7, hd, hu2, _, rfl, rfl, _, rfl, ite2 (fun c => ?_) (fun c => ?_)⟩
      · have ne : ev ws (putAt g i (z, y)) e ≠ ev ws g e := by
          rw [hu, hu2]
          intro eq
          rw [Option.some.inj eq] at c
          simp at c
        have hdf : differs ws e ss i z = true := List.any_eq_true.mpr ⟨g, hmem, List.any_eq_true.mpr ⟨y, hyw, decide_eq_true ne⟩⟩
        have q2 := q H7 (s1.trans (sm2.trans (sm3.trans k8)))
        rw [hdf] at q2
        exact q2
      · have eq : ev ws (putAt g i (z, y)) e = ev ws g e := by
          rw [hu, hu2]
          by_cases e2 : u2 = u
          · rw [e2]
          · refine absurd ?_ c
            rw [decide_eq_false fun y => e2 (by injection y)]
            rfl
        refine ⟨_, _, rfl, sm3.trans k8, fun w2 hw2 => ?_⟩
        rw [List.take_add_one, hy] at hw2
        rcases List.mem_append.mp hw2 with m | m
        · exact hno3 w2 m
        · rw [List.mem_singleton.mp m]
          exact decide_eq_false fun ne => ne eq
    · rintro σ H3 ⟨v6, v7, rfl, sm3, hno3⟩
      rw [List.length_map, List.take_length] at hno3
      refine ⟨_, _, _, _, rfl, sm2.trans sm3, fun g' hg' => ?_⟩
      rw [List.take_add_one, hgk] at hg'
      rcases List.mem_append.mp hg' with m | m
      · exact hno g' m
      · rw [List.mem_singleton.mp m, List.any_eq_false]
        intro w2 hw2
        rw [hno3 w2 hw2]
        exact Bool.false_ne_true
  · rintro σ H2 ⟨v4, v5, v6, v7, rfl, sm2, hno⟩
    rw [hglen, List.take_length] at hno
    have hdf : differs ws e ss i z = false := by
      unfold differs
      rw [List.any_eq_false]
      intro g hg
      rw [hno g hg]
      exact Bool.false_ne_true
    have q2 := q H2 (s1.trans sm2)
    rw [hdf] at q2
    exact q2
end
end K4
/-! K10: enumerate over a tuple (a rule of our own), matters. -/
namespace K4
open PySem PySem.Spec PyProof.Rows L2
/-! ### enumerate(tuple): made -/
theorem enum_make {v : Value} {o : Obj} {S : Heap → Prop} (B : Begins v o S) :
    Meets (Builtin.«enumerate.__new__» ⟨[.type "enumerate", v], []⟩) (fun _ R s => S s.heap ∧
      R (.ok (.ret (.ref (s.heap.push o).objs.size))) { s with heap := (s.heap.push o).push { cls := .type "enumerate", data := .fields #[.none, .bool false, .ref s.heap.objs.size, rawInt 0, .none, .none] } }) :=
  .of_wp fun prog w A R s h => by
    obtain ⟨hp, g, d, tk, os⟩ := s
    obtain ⟨h1, h⟩ := h
    have hsub := sub_enumerate
    have q1 : ∀ {A' : Around} {E : Value → Shared → Prop} {Q : Value → Shared → Prop}, Q (.ref hp.objs.size) ⟨hp.push o, g, d, tk, os⟩ → wpAny (model prog w) A' (pyIter v) Q E ⟨hp, g, d, tk, os⟩ :=
      fun q => B.iter prog w _ _ ⟨hp, g, d, tk, os⟩ _ h1 q
    wp_walk using q1
    refine wpAny_stack_any fun st => wpAny_pure ?_
    split
    · rename_i c _ _ _ _ _
      cases (c == Value.type "enumerate") <;> (wp_walk using q1; exact ⟨_, rfl, h⟩)
    · wp_walk using q1
      exact ⟨_, rfl, h⟩
section
variable {prog : Program} {w : World} {A : Around} {E : Value → Shared → Prop} {s : Shared}
theorem enum_call {v : Value} {o : Obj} {S : Heap → Prop} {Q : Value → Shared → Prop} (B : Begins v o S) (h1 : S s.heap)
    (h : ∀ h', IsEnum h' (s.heap.objs.size + 1) s.heap.objs.size 0 .none → h'.get? s.heap.objs.size = some o → (∀ b u, s.heap.get? b = some u → h'.get? b = some u) → Q (.ref (s.heap.objs.size + 1)) { s with heap := h' }) :
    wpAny (model prog w) A (call (.type "enumerate") [v]) Q E s := by
  refine callType_new F.called_enumerate (by decide) (F.typeCall_enumerate_1 _) (F.newCall_enumerate_1 _) (fun obj => F.args_object_init_2 obj _) F.entry_enumerate_new (enum_make B) ⟨h1, ?_⟩
  have hz : (s.heap.push o).objs.size = s.heap.objs.size + 1 := Heap.size_push ..
  show _ ∧ _
  rw [hz]
  have he : IsEnum ((s.heap.push o).push { cls := .type "enumerate", data := .fields #[.none, .bool false, .ref s.heap.objs.size, rawInt 0, .none, .none] }) (s.heap.objs.size + 1) s.heap.objs.size 0 .none := by
    have := Heap.get?_push_size (s.heap.push o) (o := { cls := .type "enumerate", data := .fields #[.none, .bool false, .ref s.heap.objs.size, rawInt 0, .none, .none] }) rfl
    rw [hz] at this
    exact this
  exact ⟨⟨_, he, rfl⟩, h _ he (Heap.get?_push_of_some _ (Heap.get?_push_size _ B.free)) fun b u x => Heap.get?_push_of_some _ (Heap.get?_push_of_some _ x)⟩
end
/-! ### walked -/
def IteT (K : PySem.W.Frag) (a : Addr) : It :=
  ⟨fun i H => ∃ (xs : List V) (x : V), SqT K H a xs ∧ xs[i]? = some x, fun i H v H' => ∃ T x, v = .ref T ∧ H T = none ∧ H' = upd H T (.tup [.int (i : Nat), x]) ∧ ∀ xs, SqT K H a xs → xs[i]? = some x, fun i H => ∃ xs : List V, SqT K H a xs ∧ xs.length = i⟩
theorem turn_enumT {P : Program} {w : World} {K : PySem.W.Frag} {elts : List Expr} {kk : Nat} {tpos : Pos} (a e it : Addr) (hait : a ≠ it) :
    Turn P w K (.Tuple elts kk tpos) (IteT K a) [e, it] e (fun i h => (∃ old, IsEnum h e it ((i : Nat) : Int) old) ∧ h.IsTupleIter it a i ∧ e ≠ it ∧ e ≠ a) where
  mem := by simp
  obj := fun i h st b hb => by
    obtain ⟨⟨old, he⟩, ⟨o, ho, hc, hd⟩, _⟩ := st
    rcases List.mem_cons.mp hb with z | z
    · rw [z]
      exact ⟨_, he, fun v q => nomatch q⟩
    · rw [List.mem_singleton.mp z]
      exact ⟨o, ho, fun v q => by rw [hd] at q; cases q⟩
  keep := fun i h h' st k => let ⟨⟨old, he⟩, hi, hne⟩ := st; ⟨⟨old, k e (by simp) _ he⟩, hi.at fun o q => k it (by simp) o q, hne⟩
  item := by
    intro X hP hw hK hc i pins s σ H E I hf st hg
    subst hP hw hK
    obtain ⟨⟨old, he⟩, hit, hne, hna⟩ := st
    obtain ⟨xs, x, hq, hx⟩ := hg
    obtain ⟨its, rv, p, hz⟩ := I.tuple hq
    obtain ⟨u, hu, ru⟩ := rv.get hx
    have hel : e < s.heap.objs.size := Heap.lt_size he
    have hil : it < s.heap.objs.size := by
      obtain ⟨_, q, _⟩ := hit
      exact Heap.lt_size q
    have D : Draws X.prog X.w X.A.in1 it [it, a] its.toArray.size (fun i v => its.toArray[i]? = some v) (fun i h => h.IsTupleIter it a i ∧ h.IsTuple a its.toArray) := Draws.tuple (A := X.A.in1) (I.ok.hd hc) it a hait its.toArray
    have hlt : i < its.toArray.size := by
      have := (List.getElem?_eq_some_iff.mp hu).1
      simpa using this
    refine wpAny_pyNext_enum_itemD D he ⟨hit, p⟩ hlt hne (by simp [hne, hna]) fun y h' tk hy ho hst hT hsz hk => ?_
    obtain rfl : y = u := by
      have hu' : its.toArray[i]? = some u := by simpa using hu
      rw [hu'] at hy
      exact (Option.some.inj hy).symm
    refine ⟨_, rfl, wpAny_letOwnedTupleGo_enum (s := { s with heap := h', toks := tk + 1 }) ho fun h2 he' sb => ?_⟩
    have hT2 : h2.get? s.heap.objs.size = some { cls := .type "tuple", data := .seq #[.int i tk, y] } := (sb.2 _ (Nat.ne_of_gt hel)).trans hT
    have new : ObjOk X.prog X.w (upd H s.heap.objs.size (.tup [.int (i : Nat), x])) h2 s.heap.objs.size (.tup [.int (i : Nat), x]) :=
      ⟨by show 2 ≤ sizeLine; decide, [.int i tk, y], .cons ⟨_, rfl⟩ (.cons ru .nil), ⟨_, hT2, rfl, _, rfl⟩⟩
    have I1 : Inv X pins σ (upd H s.heap.objs.size (.tup [.int (i : Nat), x])) { s with heap := h2, toks := tk + 1 } :=
      I.turnedNew (ch := [e, it]) (fun b ob hb q => (sb.2 b (fun z => hb (by simp [z]))).trans (hk b ob (fun z => hb (by simp [z])) (fun z => hb (by simp [z])) q)) hf (Nat.le_refl _) new
    refine ⟨.ref s.heap.objs.size, _, I1, rfl, ⟨_, x, rfl, I.hok.fresh (Nat.le_refl _), rfl, fun ys hy => by rw [I.tuple_inj hy hq]; exact hx⟩, ⟨⟨y, ?_⟩, hst.1.at fun o q => (sb.2 it (Ne.symm hne)).trans q, hne, hna⟩, fun b hb => ?_⟩
    · have e1 : ((i + 1 : Nat) : Int) = (i : Int) + 1 := by omega
      rw [e1]
      exact he'
    · have hb' : b < s.heap.objs.size := by
        rcases List.mem_cons.mp hb with z | z
        · rw [z]
          exact hel
        · rw [List.mem_singleton.mp z]
          exact hil
      rw [upd_ne (Nat.ne_of_lt hb')]
      exact (hf b hb).1
  done := by
    intro X hP hw hK hc i pins s σ H E I hf st hg
    subst hP hw hK
    obtain ⟨⟨old, he⟩, hit, hne, hna⟩ := st
    obtain ⟨xs, hq, hx⟩ := hg
    obtain ⟨its, rv, p, hz⟩ := I.tuple hq
    obtain ⟨f0, f1, f2, f3, f4, f5⟩ := hf it (by simp)
    have hl := rv.length
    have D : Draws X.prog X.w X.A.in1 it [it, a] its.toArray.size (fun i v => its.toArray[i]? = some v) (fun i h => h.IsTupleIter it a i ∧ h.IsTuple a its.toArray) := Draws.tuple (A := X.A.in1) (I.ok.hd hc) it a hait its.toArray
    have ei : i = its.toArray.size := by
      rw [List.size_toArray]
      omega
    exact wpAny_pyNext_enum_endD D he ⟨ei ▸ hit, p⟩ fun h' eb => ⟨rfl, I.turned (t' := s.toks) (fun b o hb q => eb b o hb q) f0 f1 f3 f4 f5⟩
  self := fun A i s Q E st h => let ⟨⟨_, he⟩, _⟩ := st; wpAny_pyIter_enum he h
def iEnumT (K : PySem.W.Frag) (ta : TA) : TI := fun σ H R => ta σ H fun vs H1 => ∃ a xs, vs = [.ref a] ∧ SqT K H1 a xs ∧ R (IteT K a) H1
theorem pi_enumT {X : Cx} {e : Expr} {ta : TA} {p pos tpos : Pos} {elts : List Expr} {kk : Nat} (hg : Gl X "enumerate") (hm : X.mg "enumerate" = none) (ha : PA X [e] ta) (hs : starEach [e] X.env = [(false, eval e X.env)] := by rfl) :
    PI X (.Tuple elts kk tpos) (.Call (.Name "enumerate" p) [e] [] pos) (iEnumT X.K ta) := by
  refine ⟨fun pins s σ H R I h => ?_⟩
  refine Call_ (ld_blt I hg hm boot_enumerate (PyProof.Rows.callWith_type1 (thn (ha.run pos pins s σ H _ I h) fun us s1 ⟨vs, H1, I1, r1, q1⟩ => ?_) hs rfl))
  obtain ⟨a, xs, ex, hq, q⟩ := q1
  subst ex
  cases r1 with
  | cons r rr =>
    cases rr
    cases r
    obtain ⟨its, rv, p', hz⟩ := I1.tuple hq
    have hal : a < s1.heap.objs.size := by
      obtain ⟨_, q', _⟩ := p'
      exact Heap.lt_size q'
    refine enum_call (begins_tuple a its.toArray) p' fun h' he hit hk => wpAny_pyIter_enum he ?_
    have I2 : Inv X pins σ H1 { s1 with heap := h' } := I1.kept (t' := s1.toks) hk
    refine ⟨s1.heap.objs.size + 1, [s1.heap.objs.size + 1, s1.heap.objs.size], _, _, H1, rfl, I2, turn_enumT a (s1.heap.objs.size + 1) s1.heap.objs.size (Nat.ne_of_lt hal), ⟨⟨.none, he⟩, ⟨_, hit, rfl, rfl⟩, Nat.succ_ne_self _, Nat.ne_of_gt (Nat.lt_succ_of_lt hal)⟩, fun b hb => ?_, q⟩
    have hle : s1.heap.objs.size ≤ b := by
      rcases List.mem_cons.mp hb with z | z
      · rw [z]
        exact Nat.le_succ _
      · rw [List.mem_singleton.mp z]
        exact Nat.le_refl _
    exact I1.fpOk hle (I1.hok.fresh hle)
theorem walk_enumT {K : PySem.W.Frag} {a : Addr} {xs : List V} : Walk (IteT K a) xs.length (fun H => SqT K H a xs) (YPair (fun i => some (.int (i : Nat))) (fun i => xs[i]?)) := by
  refine ⟨fun i _ hi q => ⟨xs, xs[i], q, by simp [hi]⟩, fun _ q => ⟨xs, q, rfl⟩, fun i H v H' _ q y => ?_⟩
  obtain ⟨T, x, h1, h2, h3, h4⟩ := y
  exact ⟨T, .int (i : Nat), x, h1, h2, h3, rfl, h4 xs q⟩
end K4
/-! K11: matters, first_unlike. -/
namespace K4
open PySem PySem.Spec PyProof.Rows L2
theorem count_take (ws : List Str) (e : Ex Str) (ss : List Str) (i : Nat) (s : Str) (h : ss[i]? = some s) : mattersIn ws e ss ((count 0 ss).take (i + 1)) = if differs ws e ss i s = true then mattersIn ws e ss ((count 0 ss).take i) ++ [s] else mattersIn ws e ss ((count 0 ss).take i) := by
  rw [List.take_add_one, count_get, h]
  show mattersIn ws e ss ((count 0 ss).take i ++ [(0 + i, s)]) = _
  rw [mattersIn_append, Nat.zero_add]
  show _ ++ (if differs ws e ss i s = true then [s] else []) = _
  split
  · rfl
  · rw [List.append_nil]
theorem slots_size : ∀ u : Ex Str, u.slots.length ≤ u.size
  | .word _ => Nat.zero_le _
  | .slot _ => Nat.le_refl _
  | .map _ e => by
    have h := slots_size e
    show e.slots.length ≤ 1 + e.size
    omega
  | .pair _ e f => by
    have h := slots_size e
    have h2 := slots_size f
    show (e.slots ++ f.slots).length ≤ 1 + e.size + f.size
    rw [List.length_append]
    omega
/-- two tuples of texts joined -/
theorem cat_tx {K : PySem.W.Frag} {H : Hp} {a b : Addr} {xs ys : List Str} {Q : VK} (h1 : Tx H xs a) (h2 : Tx H ys b) (hl : xs.length + ys.length ≤ 1000) (q : ∀ (H' : Hp) (r : Addr), Same H H' → Tx H' (xs ++ ys) r → Q (.ref r) H') :
    rCatA K (.ref a) (.ref b) H Q := by
  refine ⟨a, b, _, _, rfl, rfl, .of h1, .of h2, ?_, fun z => ?_, fun _ z => ?_, fun _ _ p np => ?_⟩
  · rw [List.length_map, List.length_map]
    exact small hl
  · obtain rfl : xs = [] := List.map_eq_nil_iff.mp z
    exact q H b (Same.refl H) h2
  · obtain rfl : ys = [] := List.map_eq_nil_iff.mp z
    refine q H a (Same.refl H) ?_
    rw [List.append_nil]
    exact h1
  · refine q _ p (same_new np _) ?_
    unfold Tx
    rw [upd_same, List.map_append]
section
variable {P : Program} {w : World} {K : PySem.W.Frag} {mg : Str → Option Value} {base : Heap}
/-! ### matters -/
theorem scMat : FnScope ["words", "expr", "slots", "at", "slot"] ["words", "expr"] (defScope sMat) := ⟨rfl, rfl, rfl, by decide +kernel, rfl, by decide +kernel, by decide +kernel⟩
def spMat (n : Nat) : Sp := fun vs H Q _ => ∃ (a : Addr) (x : V) (ws : List Str) (e : Ex Str), vs = [.ref a, x] ∧ Wd H ws a ∧ ExR H x e ∧ ws.length ≤ 3 ∧ (reads e).length ≤ 6 ∧ e.deep ≤ n ∧ e.size ≤ 1000 ∧ Evs ws (reads e) e ∧
  ∀ (H' : Hp) (r : Addr), Same H H' → H r = none → Tx H' (matters ws e) r → Q (.ref r) H'
theorem ok_mat {n : Nat} {f fR fD : Addr} {fd fdR fdD : FuncData} (F : L2.Fun K "matters" "matters" sMat f fd) (B : Blt mg) (GR : FnOk P w K mg base CX0 1 fR fdR ["expr"] spReads) (bR : Binds K fdR ["expr"] []) (kR : PySem.W.keepIn K (.ref fR) = true) (mR : mg "reads" = some (.ref fR))
    (GD : FnOk P w K mg base CX0 (n + 2) fD fdD ["words", "expr", "slots", "at"] (spDiff K n)) (bD : Binds K fdD ["words", "expr", "slots", "at"] []) (kD : PySem.W.keepIn K (.ref fD) = true) (mD : mg "differs_at" = some (.ref fD)) :
    FnOk P w K mg base CX0 (n + 3) f fd ["words", "expr"] (spMat n) := by
  refine F.ok scMat (fun vs H Q E h => ?_) (fun cdv A outer s H vs Q E hr h => ?_)
  · obtain ⟨a, x, ws, e, rfl, _⟩ := h
    rfl
  obtain ⟨a, x, ws, e, rfl, hw, hx, hwl, hrl, hd, hsz, hev, q⟩ := h
  have nd := scMat.nd
  have hr1 : Room 1 _ := hr.mono (by omega)
  refine ⟨_, pss_cons (ps_set (i := 2) nd rfl (.inr rfl) (pe_call GR hr1 rfl mR kR bR .nil pass0 (pa_cons (pv 1) pa_nil)))
    (pss_one (ps_ret (pe_callTy call_tuple_of rfl B.tup (by decide +kernel) (pa_cons (pe_lc (own := [("at", 3), ("slot", 4)]) (g := gTup K 2 (gCons (gName 3) (gCons (gName 4) gNil))) (tt := tB (tCall (spDiff K n) [] E0 (tCons (tVar 0) (tCons (tVar 1) (tCons (tVar 2) (tCons (tVar 3) tNil)))))) (te := tVar 4) rfl nd
      (pi_enumT rfl B.enu (pa_cons (pv 2) pa_nil)) (blkOk_by (own := [("at", 3), ("slot", 4)]) (N := ["words", "expr", "slots", "at", "slot"]) (sc := defScope sMat) (by decide +kernel))
      (fun _ _ _ _ _ => by exact pg_tup rfl (pgs_cons (pg_name (i := 3) nd rfl (.inl rfl)) (pgs_cons (pg_name (i := 4) nd rfl (.inl rfl)) pgs_nil)))
      (fun _ _ _ _ _ => by exact pts_one (pt_val (pe_call GD hr rfl mD kD bD .nil pass0 (pa_cons (pv 0) (pa_cons (pv 1) (pa_cons (pv 2) (pa_cons (pv 3) pa_nil)))))))
      (fun _ _ _ _ _ => by exact pv 4)) pa_nil)))), ?_⟩
  -- slots = reads(expr)
  refine ⟨_, rfl, x, e, rfl, hx, hsz, fun H1 r s1 nr hr1' => ?_⟩
  -- the comprehension
  refine ⟨_, rfl, r, (reads e).map V.str, rfl, .of hr1', fun D nD => ?_⟩
  refine walk_ex (walk_enumT (K := K) (a := r) (xs := (reads e).map V.str)) (fun i H' => Same H1 H' ∧ H' D = some (.lst ((mattersIn ws e (reads e) ((count 0 (reads e)).take i)).map V.str))) ⟨same_new nD _, upd_same⟩ (fun i H' _ h => .of (h.1 _ _ hr1')) ?_ ?_
  · rintro i v H2 H2' hi ⟨sm2, eD⟩ ⟨T, xi, y, rfl, nT, rfl, hxi, hy⟩
    obtain rfl : V.int (i : Int) = xi := Option.some.inj hxi
    obtain ⟨z, hz, rfl⟩ := get_map_str hy
    have k2 : Same H2 (upd H2 T (.tup [.int (i : Int), .str z])) := same_new nT _
    have sm3 := sm2.trans k2
    have eD3 := k2 _ _ eD
    have eT : (upd H2 T (.tup [.int (i : Int), .str z])) T = some (.tup [.int (i : Int), .str z]) := upd_same
    generalize upd H2 T (.tup [.int (i : Int), .str z]) = H3 at k2 sm3 eD3 eT
    have tk3 : TK H H3 := tk_same (s1.trans sm3)
    refine ⟨T, _, rfl, .of eT, rfl, _, _, rfl, _, _, rfl, rfl, rfl, ?_⟩
    refine ⟨_, rfl, _, rfl, _, rfl, _, rfl, a, r, x, i, ws, reads e, e, z, rfl, hw.mono tk3, hx.mono tk3, .inl (sm3 _ _ hr1'), hwl, hrl, hd, hz, hev, fun H4 s4 => ?_⟩
    refine ⟨_, rfl, ?_⟩
    have ct := count_take ws e (reads e) i z hz
    cases hdf : differs ws e (reads e) i z with
    | true =>
      rw [hdf] at ct
      refine ⟨_, rfl, _, s4 _ _ eD3, ?_, fun c o h => ?_, ?_⟩
      · have l1 := mattersIn_length ws e (reads e) ((count 0 (reads e)).take i)
        rw [List.length_take, count_length] at l1
        rw [List.length_map]
        have : (mattersIn ws e (reads e) ((count 0 (reads e)).take i)).length ≤ 1000 := by omega
        exact small1000 this
      · rw [upd_ne (ne_of_none h nD)]
        exact s4 _ _ (sm3 _ _ h)
      · rw [upd_same, ct]
        simp
    | false =>
      rw [hdf] at ct
      refine ⟨fun c o h => s4 _ _ (sm3 _ _ h), ?_⟩
      rw [ct]
      exact s4 _ _ eD3
  · rintro H2 ⟨sm2, eD⟩
    rw [List.length_map] at eD
    have el : (count 0 (reads e)).take (reads e).length = count 0 (reads e) := List.take_of_length_le (by rw [count_length]; exact Nat.le_refl _)
    rw [el] at eD
    refine ⟨D, _, rfl, .inl ⟨.of eD, fun l nl => ?_⟩⟩
    exact q _ l (s1.trans (sm2.trans (same_new nl _))) ((s1.trans sm2).free nl) upd_same
/-! ### first_unlike -/
theorem scUnl : FnScope ["words", "expr", "other", "slots", "further", "given", "slot"] ["words", "expr", "other"] (defScope sUnl) := ⟨rfl, rfl, rfl, by decide +kernel, rfl, by decide +kernel, by decide +kernel⟩
def spUnl (n : Nat) : Sp := fun vs H Q _ => ∃ (a : Addr) (x y : V) (ws : List Str) (e o : Ex Str), vs = [.ref a, x, y] ∧ Wd H ws a ∧ ExR H x e ∧ ExR H y o ∧ ws.length ≤ 3 ∧ (reads e ++ further e o).length ≤ 6 ∧ e.deep ≤ n ∧ o.deep ≤ n ∧ e.size ≤ 1000 ∧ o.size ≤ 1000 ∧
  Evs ws (reads e ++ further e o) e ∧ Evs ws (reads e ++ further e o) o ∧
  (firstUnlike ws e o = none → ∀ H', Same H H' → Q .non H') ∧ (∀ g, firstUnlike ws e o = some g → ∀ (H' : Hp) (r : Addr), Same H H' → GvR H' g r → Q (.ref r) H')
theorem find_at {α : Type} {p : α → Bool} : ∀ {l : List α} {k : Nat} {g : α}, (∀ x ∈ l.take k, p x = false) → l[k]? = some g → p g = true → l.find? p = some g
  | [], _, _, _, h, _ => by simp at h
  | x :: r, 0, g, _, h, hp => by
    obtain rfl := Option.some.inj h
    rw [List.find?_cons, hp]
  | x :: r, k + 1, g, hn, h, hp => by
    rw [List.find?_cons, hn x (List.mem_cons_self ..)]
    exact find_at (k := k) (fun y hy => hn y (List.mem_cons_of_mem _ hy)) h hp
theorem ok_unl {n : Nat} {f fR fA fV : Addr} {fd fdR fdA fdV : FuncData} (F : L2.Fun K "first_unlike" "first_unlike" sUnl f fd) (B : Blt mg) (GR : FnOk P w K mg base CX0 1 fR fdR ["expr"] spReads) (bR : Binds K fdR ["expr"] []) (kR : PySem.W.keepIn K (.ref fR) = true) (mR : mg "reads" = some (.ref fR))
    (GA : FnOk P w K mg base CX0 1 fA fdA ["words", "slots"] (spAll K)) (bA : Binds K fdA ["words", "slots"] []) (kA : PySem.W.keepIn K (.ref fA) = true) (mA : mg "all_given" = some (.ref fA))
    (GV : FnOk P w K mg base CX0 (n + 1) fV fdV ["words", "expr", "given"] (spVal n)) (bV : Binds K fdV ["words", "expr", "given"] []) (kV : PySem.W.keepIn K (.ref fV) = true) (mV : mg "value" = some (.ref fV)) :
    FnOk P w K mg base CX0 (n + 2) f fd ["words", "expr", "other"] (spUnl n) := by
  refine F.ok scUnl (fun vs H Q E h => ?_) (fun cdv A outer s H vs Q E hr h => ?_)
  · obtain ⟨a, x, y, ws, e, o, rfl, _⟩ := h
    rfl
  obtain ⟨a, x, y, ws, e, o, rfl, hw, hx, hy, hwl, hrl, hde, hdo, hse, hso, hev, hov, qN, qS⟩ := h
  have nd := scUnl.nd
  have hr1 : Room 1 _ := hr.mono (by omega)
  refine ⟨_, pss_cons (ps_set (i := 3) nd rfl (.inr rfl) (pe_call GR hr1 rfl mR kR bR .nil pass0 (pa_cons (pv 1) pa_nil)))
    (pss_cons (ps_set (i := 4) nd rfl (.inl rfl) (pe_callTy call_tuple_of rfl B.tup (by decide +kernel) (pa_cons (pe_lc (own := [("slot", 6)]) (g := gName 6) (tt := tTest (tOp (rIn K true) (tVar 6) (tVar 3))) (te := tVar 6) rfl nd
      (pi_tup (pe_call GR hr1 rfl mR kR bR .nil pass0 (pa_cons (pv 2) pa_nil))) (blkOk_by (own := [("slot", 6)]) (N := ["words", "expr", "other", "slots", "further", "given", "slot"]) (sc := defScope sUnl) (by decide +kernel))
      (fun _ _ _ _ _ => by exact pg_name (i := 6) nd rfl (.inl rfl))
      (fun _ _ _ _ _ => by exact pts_one (pt_cmpR op_notIn_seq (pv 6) (pv 3) rfl))
      (fun _ _ _ _ _ => by exact pv 6)) pa_nil)))
    (pss_cons (ps_for PassesOwn.never rfl (pi_list (pe_call GA hr1 rfl mA kA bA .nil pass0 (pa_cons (pv 0) (pa_cons (pe_op op_catA (pv 3) (pv 4)) pa_nil)))) (pg_name (i := 5) nd rfl (.inl rfl))
      (pss_one (ps_if (pt_cmpR op_ne (pe_call GV hr rfl mV kV bV .nil pass0 (pa_cons (pv 0) (pa_cons (pv 1) (pa_cons (pv 5) pa_nil)))) (pe_call GV hr rfl mV kV bV .nil pass0 (pa_cons (pv 0) (pa_cons (pv 2) (pa_cons (pv 5) pa_nil)))) (nomark _))
        (pss_one (ps_ret (pv 5))) pss_nil)))
    (pss_one (ps_ret pe_non)))), ?_⟩
  -- slots = reads(expr)
  refine ⟨_, rfl, x, e, rfl, hx, hse, fun H1 r s1 nr hr1' => ?_⟩
  -- further = tuple([slot for slot in reads(other) if slot not in slots])
  refine ⟨_, rfl, y, o, rfl, hy.mono (tk_same s1), hso, fun H2 r2 s2 nr2 hr2' => ?_⟩
  have hrs2 : Tx H2 (reads e) r := hr1'.mono (tk_same s2)
  refine ⟨r2, rfl, ⟨_, .of hr2'⟩, fun D nD => ?_⟩
  have hlo : (reads o).length ≤ 1000 := by
    exact Nat.le_trans (nodup_length (reads_nodup o) (fun z hz => reads_mem.mp hz)) (Nat.le_trans (slots_size o) hso)
  refine walk_ex (walk_tup (K := K) (a := r2) (xs := (reads o).map V.str)) (fun i H' => Same H2 H' ∧ H' D = some (.lst ((((reads o).take i).filter fun s => !decide (s ∈ reads e)).map V.str))) ⟨same_new nD _, upd_same⟩ (fun i H' _ h => .of (h.1 _ _ hr2')) ?_ ?_
  · rintro i v H3 H3' hi ⟨sm3, eD⟩ ⟨rfl, hv⟩
    obtain ⟨z, hz, rfl⟩ := get_map_str hv
    refine ⟨rfl, ?_⟩
    refine ⟨_, rfl, _, rfl, r, _, rfl, .inr (.of (sm3 _ _ hrs2)), rfl, flat_strs _, _, rfl, ?_⟩
    rw [inV_str]
    have ft : ((reads o).take (i + 1)).filter (fun s => !decide (s ∈ reads e)) = ((reads o).take i).filter (fun s => !decide (s ∈ reads e)) ++ [z].filter (fun s => !decide (s ∈ reads e)) := by
      rw [List.take_add_one, hz, List.filter_append]
      rfl
    by_cases mz : z ∈ reads e
    · rw [decide_eq_true mz]
      refine ⟨sm3, ?_⟩
      rw [ft, List.filter_cons, decide_eq_true mz]
      simpa using eD
    · rw [decide_eq_false mz]
      refine ⟨_, rfl, _, eD, ?_, fun c u h => ?_, ?_⟩
      · have l1 := List.length_filter_le (fun s => !decide (s ∈ reads e)) ((reads o).take i)
        rw [List.length_take] at l1
        rw [List.length_map]
        have : (((reads o).take i).filter fun s => !decide (s ∈ reads e)).length ≤ 1000 := by omega
        exact small1000 this
      · rw [upd_ne (ne_of_none h nD)]
        exact sm3 _ _ h
      · rw [upd_same, ft, List.filter_cons, decide_eq_false mz]
        simp
  · rintro H3 ⟨sm3, eD⟩
    rw [List.length_map, List.take_length] at eD
    refine ⟨D, _, rfl, .inl ⟨.of eD, fun l nl => ?_⟩⟩
    have k4 := sm3.trans (same_new nl (.tup ((further e o).map V.str)))
    have efl : (upd H3 l (.tup ((further e o).map V.str))) l = some (.tup ((further e o).map V.str)) := upd_same
    have ers : (upd H3 l (.tup ((further e o).map V.str))) r = some (.tup ((reads e).map V.str)) := k4 _ _ hrs2
    have s4 : Same H (upd H3 l (.tup ((further e o).map V.str))) := s1.trans (s2.trans k4)
    have hfl : (reads e).length + (further e o).length ≤ 1000 := by
      rw [List.length_append] at hrl
      omega
    -- for given in all_given(words, slots + further)
    refine ⟨_, rfl, _, rfl, _, rfl, cat_tx ers efl hfl fun H5 r5 s5 h5 => ?_⟩
    have s5' : Same H H5 := s4.trans s5
    refine ⟨a, r5, ws, _, rfl, (tk_same s5').rd hw.tw, .inl h5, hwl, hrl, fun H6 l6 s6 nl6 hl6 => ?_⟩
    have s6' : Same H H6 := s5'.trans s6
    obtain ⟨gs, hgs, hgp⟩ := id hl6
    have hglen := paired_length hgp
    refine ⟨l6, rfl, ⟨_, .of hgs⟩, for_list (K := K) (a := l6) (xs := gs) (fun k σ H' => H' = H6 ∧ (∃ v5, σ = [some (.ref a), some x, some y, some (.ref r), some (.ref l), v5, none]) ∧
        ∀ g ∈ (allG ws (reads e ++ further e o)).take k, unlike ws e o g = false) ⟨rfl, ⟨_, rfl⟩, by simp⟩ (fun k σ H' _ h => by rw [h.1]; exact .of hgs) ?_ ?_⟩
    · rintro k v σ H' hk ⟨rfl, ⟨v5, rfl⟩, hno⟩
      obtain ⟨g, hgk, ga, rfl, hga⟩ := paired_get hgp hk
      obtain ⟨g1, g2⟩ := allG_mem (List.mem_of_getElem? hgk)
      obtain ⟨u1, hu1⟩ := hev g g1 g2
      obtain ⟨u2, hu2⟩ := hov g g1 g2
      have tk : TK H H' := tk_same s6'
      refine ⟨_, rfl, _, rfl, _, rfl, a, ga, x, ws, e, g, u1, rfl, hw.mono tk, hx.mono tk, hga, hde, hu1, ?_⟩
      refine ⟨_, rfl, _, rfl, _, rfl, a, ga, y, ws, o, g, u2, rfl, hw.mono tk, hy.mono tk, hga, hdo, hu2, rfl, _, rfl, ite2 (fun c => ?_) (fun c => ?_)⟩
      · have un : unlike ws e o g = true := by
          unfold unlike
          rw [hu1, hu2]
          refine decide_eq_true fun eq => ?_
          rw [Option.some.inj eq] at c
          simp at c
        exact ⟨_, rfl, qS g (find_at hno hgk un) H' ga s6' hga⟩
      · refine ⟨rfl, ⟨_, rfl⟩, fun g' hg' => ?_⟩
        rw [List.take_add_one, hgk] at hg'
        rcases List.mem_append.mp hg' with m | m
        · exact hno g' m
        · rw [List.mem_singleton.mp m]
          unfold unlike
          rw [hu1, hu2]
          refine decide_eq_false fun ne => c ?_
          rw [decide_eq_false fun z => ne (congrArg some (by injection z))]
          rfl
    · rintro σ H' ⟨rfl, ⟨v5, rfl⟩, hno⟩
      rw [hglen, List.take_length] at hno
      refine qN ?_ H' s6'
      unfold firstUnlike
      rw [List.find?_eq_none]
      intro g hg
      rw [hno g hg]
      exact Bool.false_ne_true
end
end K4
/-! K12: the pool of numbers: _law_pool, _law_draw, _law_pick. -/
namespace K4
open PySem PySem.Spec PyProof.Rows L2
/-- the pool at p -/
def PoolR (H : Hp) (p : Addr) : Prop := ∃ (g s : Addr) (ns ms : List Int) (d c : Int), H p = some (.lst [.ref g, .ref s, .int d, .int c]) ∧ H g = some (.lst (ns.map V.int)) ∧ H s = some (.lst (ms.map V.int))
theorem PoolR.mono {H H' : Hp} (k : Same H H') {p : Addr} (h : PoolR H p) : PoolR H' p := by
  obtain ⟨g, s, ns, ms, d, c, h1, h2, h3⟩ := h
  exact ⟨g, s, ns, ms, d, c, k _ _ h1, k _ _ h2, k _ _ h3⟩
/-- b is one of the pool's two lists -/
def Inner (H : Hp) (p b : Addr) : Prop := ∃ (g s : Addr) (d c : V), H p = some (.lst [.ref g, .ref s, d, c]) ∧ (b = g ∨ b = s)
theorem Inner.there {H : Hp} {p b : Addr} (h : Inner H p b) (q : PoolR H p) : ∃ ns : List Int, H b = some (.lst (ns.map V.int)) := by
  obtain ⟨g, s, d, c, h1, h2⟩ := h
  obtain ⟨g', s', ns, ms, d', c', e1, e2, e3⟩ := q
  rw [e1] at h1
  injection h1 with h1
  injection h1 with h1
  injection h1 with a1 h1
  injection h1 with a2 h1
  injection a1 with a1
  injection a2 with a2
  subst a1 a2
  rcases h2 with rfl | rfl
  · exact ⟨ns, e2⟩
  · exact ⟨ms, e3⟩
theorem Inner.of {H H' : Hp} {p b : Addr} (h : Inner H' p b) (q : PoolR H p) (e : ∀ o, H p = some o → H' p = some o) : Inner H p b := by
  obtain ⟨g, s, ns, ms, d, c, e1, _, _⟩ := q
  obtain ⟨g', s', d', c', h1, h2⟩ := h
  rw [e _ e1] at h1
  exact ⟨g', s', d', c', e1.trans h1, h2⟩
/-- all but the pool stands, the pool is one still, its lists are the old ones or new -/
structure Kp (p : Addr) (H H' : Hp) : Prop where
  keep : ∀ b o, b ≠ p → H b = some o → H' b = some o
  pool : PoolR H' p
  inn : ∀ b, Inner H' p b → Inner H p b ∨ H b = none
theorem Kp.of {p : Addr} {H H' : Hp} (h : PoolR H p) (s : Same H H') : Kp p H H' := ⟨fun b o _ e => s b o e, h.mono s, fun b i => .inl (i.of h fun o e => s _ _ e)⟩
theorem PoolR.ne {H : Hp} {p b : Addr} {o : HO} (h : PoolR H p) (e : H b = some o) (f : fixed o = true) : b ≠ p := by
  obtain ⟨g, s, ns, ms, d, c, h1, _⟩ := h
  exact ne_of e h1 (by rintro rfl; cases f)
theorem PoolR.nn {H : Hp} {p b : Addr} (h : PoolR H p) (e : H b = none) : b ≠ p := by
  rintro rfl
  obtain ⟨g, s, ns, ms, d, c, h1, _⟩ := h
  rw [h1] at e
  cases e
theorem Kp.tk {p : Addr} {H H' : Hp} (h : PoolR H p) (k : Kp p H H') : TK H H' := fun b o f e => k.keep b o (h.ne e f) e
/-- what is new stays apart -/
theorem Kp.free {p : Addr} {H H' : Hp} (k : Kp p H H') {l : Addr} (e : H' l = none) : H l = none := by
  cases q : H l with
  | none => rfl
  | some o =>
    rw [k.keep l o (k.pool.nn e) q] at e
    cases e
theorem Kp.trans {p : Addr} {H H1 H2 : Hp} (a : Kp p H H1) (b : Kp p H1 H2) : Kp p H H2 := ⟨fun c o n e => b.keep c o n (a.keep c o n e), b.pool, fun c i => by
  rcases b.inn c i with j | j
  · exact a.inn c j
  · exact .inr (a.free j)⟩
theorem Kp.same {p : Addr} {H H1 H2 : Hp} (a : Kp p H H1) (b : Same H1 H2) : Kp p H H2 := a.trans (.of a.pool b)
/-- .. where beside the pool a new object at D changes -/
structure KpD (p D : Addr) (H H' : Hp) : Prop where
  kp : Kp p H H'
  nin : ¬ Inner H' p D
theorem KpD.start {p D : Addr} {H : Hp} (h : PoolR H p) (n : H D = none) (o : HO) : KpD p D H (upd H D o) := by
  have k := Kp.of h (same_new n o)
  refine ⟨k, fun i => ?_⟩
  obtain ⟨ns, e⟩ := (i.of h fun o e => same_new n _ _ _ e).there h
  rw [n] at e
  cases e
theorem KpD.step {p D : Addr} {H H1 H2 : Hp} (a : KpD p D H H1) {o : HO} (e : H1 D = some o) (b : Kp p H1 H2) : KpD p D H H2 := ⟨a.kp.trans b, fun i => by
  rcases b.inn D i with j | j
  · exact a.nin j
  · rw [e] at j
    cases j⟩
theorem KpD.put {p D : Addr} {H H1 : Hp} (h : PoolR H p) (n : H D = none) (a : KpD p D H H1) (o : HO) : KpD p D H (upd H1 D o) := by
  have nd : p ≠ D := (h.nn n).symm
  obtain ⟨g, s, ns, ms, d, c, e1, e2, e3⟩ := a.kp.pool
  have ng : g ≠ D := fun z => a.nin ⟨g, s, _, _, e1, .inl z.symm⟩
  have ns' : s ≠ D := fun z => a.nin ⟨g, s, _, _, e1, .inr z.symm⟩
  have back : ∀ b, Inner (upd H1 D o) p b → Inner H1 p b := fun b i => by
    obtain ⟨g', s', d', c', h1, h2⟩ := i
    rw [upd_ne nd] at h1
    exact ⟨g', s', d', c', h1, h2⟩
  exact ⟨⟨fun b u nb e => by rw [upd_ne (ne_of_none e n)]; exact a.kp.keep b u nb e, ⟨g, s, ns, ms, d, c, by rw [upd_ne nd]; exact e1, by rw [upd_ne ng]; exact e2, by rw [upd_ne ns']; exact e3⟩, fun b i => a.kp.inn b (back b i)⟩, fun i => a.nin (back D i)⟩
theorem cut_ints (ns : List Int) (lo hi : Option Int) : ∃ ms : List Int, cutV (ns.map V.int) lo hi = ms.map V.int ∧ ms.length ≤ ns.length := by
  unfold cutV
  refine ⟨(ns.drop (HT.sIx (ns.map V.int).length 0 lo)).take (HT.sIx (ns.map V.int).length (ns.map V.int).length hi - HT.sIx (ns.map V.int).length 0 lo), by rw [List.map_take, List.map_drop], ?_⟩
  rw [List.length_take, List.length_drop]
  omega
theorem get_map_int {xs : List Int} {i : Nat} {x : V} (h : (xs.map V.int)[i]? = some x) : ∃ z, xs[i]? = some z ∧ x = .int z := by
  rw [List.getElem?_map] at h
  obtain ⟨z, h1, h2⟩ := Option.map_eq_some_iff.mp h
  exact ⟨z, h1, h2.symm⟩
section
variable {P : Program} {w : World} {K : PySem.W.Frag} {mg : Str → Option Value} {base : Heap}
/-! ### _law_pool -/
theorem scPool : FnScope ["_law_script", "_law_cells", "_law_great", "_law_small", "_law_cell"] ["_law_script"] (defScope sPool) := ⟨rfl, rfl, rfl, by decide +kernel, rfl, by decide +kernel, by decide +kernel⟩
def spPool (K : PySem.W.Frag) : Sp := fun vs H Q _ => ∃ (a : Addr) (ns : List Int), vs = [.ref a] ∧ SqL K H a (ns.map V.int) ∧ ns.length ≤ 63 ∧ ∀ (H' : Hp) (p : Addr), Same H H' → H p = none → PoolR H' p → Q (.ref p) H'
def rGe : R2 := rI0 fun i j => .bl (decide (j ≤ i))
def rLt : R2 := rI0 fun i j => .bl (decide (i < j))
/-- the list at D, grown by an int -/
theorem grow {H1 H : Hp} {D : Addr} {ms : List Int} {i n : Nat} (nD : H1 D = none) (sm : Same H1 H) (eD : H D = some (.lst (ms.map V.int))) (hl : ms.length ≤ i) (hi : i < n) (hn : n ≤ 63) (z : Int) :
    ∃ acc, H D = some (.lst acc) ∧ acc.length < sizeLine ∧ (Same H1 (upd H D (.lst (acc ++ [.int z]))) ∧ ∃ ms' : List Int, (upd H D (.lst (acc ++ [.int z]))) D = some (.lst (ms'.map V.int)) ∧ ms'.length ≤ i + 1) := by
  refine ⟨_, eD, ?_, fun c o e => ?_, ms ++ [z], ?_, ?_⟩
  · rw [List.length_map]
    have : ms.length ≤ 1000 := by omega
    exact small1000 this
  · rw [upd_ne (ne_of_none e nD)]
    exact sm c o e
  · rw [upd_same, List.map_append]
    rfl
  · rw [List.length_append]
    show ms.length + 1 ≤ i + 1
    omega
theorem ok_pool {f : Addr} {fd : FuncData} (F : L2.Fun K "_law_pool" "_law_pool" sPool f fd) (B : Blt mg) : FnOk P w K mg base CX0 1 f fd ["_law_script"] (spPool K) := by
  refine F.ok scPool (fun vs H Q E h => ?_) (fun cdv A outer s H vs Q E hr h => ?_)
  · obtain ⟨a, ns, rfl, _⟩ := h
    rfl
  obtain ⟨a, ns, rfl, hS, hlen, q⟩ := h
  have nd := scPool.nd
  refine ⟨_, pss_cons (ps_setLc (i := 1) (own := [("_law_cell", 4)]) (g := gName 4) (tt := tYes) rfl nd rfl rfl (sw_true rfl rfl rfl (by decide +kernel)) (pi_list (pe_slice sl_list (pv 0) po_none (po_some pe_int)))
      (blkOk_by (own := [("_law_cell", 4)]) (N := ["_law_script", "_law_cells", "_law_great", "_law_small", "_law_cell"]) (sc := defScope sPool) (by decide +kernel))
      (fun _ _ _ _ _ => by exact pg_name (i := 4) nd rfl (.inl rfl)) (fun _ _ _ _ _ => pts_nil)
      (fun _ _ _ _ _ => pe_callTy call_int1 rfl B.int (by decide +kernel) (pa_cons (pv 4) pa_nil)))
    (pss_cons (ps_setLc (i := 2) (own := [("_law_cell", 4)]) (g := gName 4) rfl nd rfl rfl (sw_true rfl rfl rfl (by decide +kernel)) (pi_list (pv 1))
      (blkOk_by (own := [("_law_cell", 4)]) (N := ["_law_script", "_law_cells", "_law_great", "_law_small", "_law_cell"]) (sc := defScope sPool) (by decide +kernel))
      (fun _ _ _ _ _ => by exact pg_name (i := 4) nd rfl (.inl rfl))
      (fun _ _ _ _ _ => pts_one (pt_cmpR op_ge (pe_callB call_abs rfl B.abs (by decide +kernel) (pa_cons (pv 4) pa_nil)) (pe_op op_pow pe_int pe_int) (nomark _)))
      (fun _ _ _ _ _ => pe_callB call_abs rfl B.abs (by decide +kernel) (pa_cons (pv 4) pa_nil)))
    (pss_cons (ps_setLc (i := 3) (own := [("_law_cell", 4)]) (g := gName 4) rfl nd rfl rfl (sw_true rfl rfl rfl (by decide +kernel)) (pi_list (pv 1))
      (blkOk_by (own := [("_law_cell", 4)]) (N := ["_law_script", "_law_cells", "_law_great", "_law_small", "_law_cell"]) (sc := defScope sPool) (by decide +kernel))
      (fun _ _ _ _ _ => by exact pg_name (i := 4) nd rfl (.inl rfl))
      (fun _ _ _ _ _ => pts_one (pt_cmpR op_lt (pe_callB call_abs rfl B.abs (by decide +kernel) (pa_cons (pv 4) pa_nil)) (pe_op op_pow pe_int pe_int) (nomark _)))
      (fun _ _ _ _ _ => pe_op op_mod (pe_callTy call_int1 rfl B.int (by decide +kernel) (pa_cons (pv 4) pa_nil)) pe_int))
    (pss_one (ps_ret (pe_lst (pa_cons (pv 2) (pa_cons (pv 3) (pa_cons pe_int (pa_cons pe_int pa_nil))))))))), ?_⟩
  -- _law_cells
  refine ⟨_, rfl, 63, rfl, a, _, rfl, hS, fun l0 nl0 => ?_⟩
  obtain ⟨cs, hcs, hcl⟩ := cut_ints ns none (some 63)
  rw [hcs]
  have s0 : Same H (upd H l0 (.lst (cs.map V.int))) := same_new nl0 _
  refine ⟨l0, rfl, ⟨_, .of upd_same⟩, fun D nD => ?_⟩
  have e0 : (upd H l0 (.lst (cs.map V.int))) l0 = some (.lst (cs.map V.int)) := upd_same
  generalize upd H l0 (.lst (cs.map V.int)) = H0 at s0 nD e0
  refine walk_ex (walk_list (K := K) (a := l0) (xs := cs.map V.int)) (fun i H' => Same H0 H' ∧ ∃ ms : List Int, H' D = some (.lst (ms.map V.int)) ∧ ms.length ≤ i) ⟨same_new nD _, [], upd_same, Nat.le_refl _⟩ (fun i H' _ h => .of (h.1 _ _ e0)) ?_ ?_
  · rintro i x H1 H1' hi ⟨sm, ms, eD, hl⟩ ⟨rfl, hx⟩
    obtain ⟨z, hz, rfl⟩ := get_map_int hx
    rw [List.length_map] at hi
    exact ⟨rfl, _, rfl, .inl ⟨_, rfl, grow nD sm eD hl hi (by omega) _⟩⟩
  rintro H1 ⟨s1, xs1, e1, l1⟩
  rw [List.length_map] at l1
  have nD' := nD
  -- _law_great
  refine ⟨_, rfl, D, rfl, ⟨_, .of e1⟩, fun D2 nD2 => ?_⟩
  refine walk_ex (walk_list (K := K) (a := D) (xs := xs1.map V.int)) (fun i H' => Same H1 H' ∧ ∃ ms : List Int, H' D2 = some (.lst (ms.map V.int)) ∧ ms.length ≤ i) ⟨same_new nD2 _, [], upd_same, Nat.le_refl _⟩ (fun i H' _ h => .of (h.1 _ _ e1)) ?_ ?_
  · rintro i x H2 H2' hi ⟨sm, ms, eD, hl⟩ ⟨rfl, hx⟩
    obtain ⟨z, hz, rfl⟩ := get_map_int hx
    rw [List.length_map] at hi
    refine ⟨rfl, ?_⟩
    refine ⟨_, rfl, _, rfl, _, _, rfl, rfl, ⟨by decide, by decide, by decide⟩, _, _, rfl, rfl, _, rfl, ite2 (fun _ => ?_) (fun _ => ?_)⟩
    · exact ⟨_, rfl, _, rfl, grow nD2 sm eD hl hi (by omega) _⟩
    · exact ⟨sm, ms, eD, Nat.le_succ_of_le hl⟩
  rintro H2 ⟨s2, xs2, e2, l2⟩
  have e12 := s2 _ _ e1
  -- _law_small
  refine ⟨_, rfl, D, rfl, ⟨_, .of e12⟩, fun D3 nD3 => ?_⟩
  refine walk_ex (walk_list (K := K) (a := D) (xs := xs1.map V.int)) (fun i H' => Same H2 H' ∧ ∃ ms : List Int, H' D3 = some (.lst (ms.map V.int)) ∧ ms.length ≤ i) ⟨same_new nD3 _, [], upd_same, Nat.le_refl _⟩ (fun i H' _ h => .of (h.1 _ _ e12)) ?_ ?_
  · rintro i x H3 H3' hi ⟨sm, ms, eD, hl⟩ ⟨rfl, hx⟩
    obtain ⟨z, hz, rfl⟩ := get_map_int hx
    rw [List.length_map] at hi
    refine ⟨rfl, ?_⟩
    refine ⟨_, rfl, _, rfl, _, _, rfl, rfl, ⟨by decide, by decide, by decide⟩, _, _, rfl, rfl, _, rfl, ite2 (fun _ => ?_) (fun _ => ?_)⟩
    · exact ⟨_, rfl, .inl ⟨_, rfl, _, _, rfl, rfl, (by show (0 : Int) < 1000003; decide), grow nD3 sm eD hl hi (by omega) _⟩⟩
    · exact ⟨sm, ms, eD, Nat.le_succ_of_le hl⟩
  rintro H3 ⟨s3, xs3, e3, l3⟩
  -- return [great, small, 0, 0]
  refine ⟨_, rfl, _, rfl, by show 4 ≤ sizeLine; decide, fun p np => ?_⟩
  have k4 : Same H3 (upd H3 p (.lst [.ref D2, .ref D3, .int 0, .int 0])) := same_new np _
  have sA : Same H H3 := s0.trans (s1.trans (s2.trans s3))
  refine q _ p (sA.trans k4) (sA.free np) ⟨D2, D3, xs2, xs3, 0, 0, upd_same, k4 _ _ (s3 _ _ e2), k4 _ _ e3⟩
/-! ### _law_draw -/
theorem scDraw : FnScope ["_law_pool_here", "_law_many", "_law_great", "_law_digit", "_law_seed", "_law_number"] ["_law_pool_here", "_law_many"] (defScope sDraw) := ⟨rfl, rfl, rfl, by decide +kernel, rfl, by decide +kernel, by decide +kernel⟩
def spDraw : Sp := fun vs H Q _ => ∃ (p : Addr) (m : Int), vs = [.ref p, .int m] ∧ 0 < m ∧ m < 1000000 ∧ PoolR H p ∧ ∀ (H' : Hp) (d : Int), Kp p H H' → 0 ≤ d → d < m → Q (.int d) H'
theorem ok_draw {f : Addr} {fd : FuncData} (F : L2.Fun K "_law_draw" "_law_draw" sDraw f fd) (B : Blt mg) : FnOk P w K mg base CX0 1 f fd ["_law_pool_here", "_law_many"] spDraw := by
  refine F.ok scDraw (fun vs H Q E h => ?_) (fun cdv A outer s H vs Q E hr h => ?_)
  · obtain ⟨p, m, rfl, _⟩ := h
    rfl
  obtain ⟨p, m, rfl, hm0, hm1, hp, q⟩ := h
  have nd := scDraw.nd
  refine ⟨_, C8.pss_cut (ps_if (PW.pt (pw_and (pt_cmpR op_eq (pe_ix ix_list (pv 0) pe_int (fun _ _ => rfl)) pe_int (nomark _)) (pw_and1 (pt_cmpR op_gt (pe_callB call_len_seq rfl B.len PySem.boot_len (pa_cons (pe_ix ix_list (pv 0) pe_int (fun _ _ => rfl)) pa_nil)) pe_int (nomark _)))))
        (pss_cons (ps_set (i := 2) nd rfl (.inl rfl) (pe_ix ix_list (pv 0) pe_int (fun _ _ => rfl)))
        (pss_cons (ps_asg (pe_ix ix_list (pv 2) pe_int (fun _ _ => rfl)) (pg_sub (pv 0) pe_int set_list))
        (pss_one (ps_asg (pe_slice sl_list (pv 2) (po_some pe_int) po_none) (pg_sub (pv 0) pe_int set_list))))) pss_nil)
    (pss_cons (ps_if (pt_cmpR op_gt (pe_ix ix_list (pv 0) pe_int (fun _ _ => rfl)) pe_int (nomark _))
        (pss_cons (ps_set (i := 3) nd rfl (.inl rfl) (pe_op op_mod (pe_callTy call_int1 rfl B.int (by decide +kernel) (pa_cons (pe_ix ix_list (pv 0) pe_int (fun _ _ => rfl)) pa_nil)) (pv 1)))
        (pss_cons (ps_asg (pe_op op_fdiv (pe_ix ix_list (pv 0) pe_int (fun _ _ => rfl)) (pv 1)) (pg_sub (pv 0) pe_int set_list))
        (pss_one (ps_ret (pv 3))))) pss_nil)
    (pss_cons (ps_asg (pe_op op_add (pe_ix ix_list (pv 0) pe_int (fun _ _ => rfl)) pe_int) (pg_sub (pv 0) pe_int set_list))
    (pss_cons (ps_set (i := 4) nd rfl (.inl rfl) pe_int)
    (C8.pss_cut (ps_if (pt_cmpR op_gt (pe_callB call_len_seq rfl B.len PySem.boot_len (pa_cons (pe_ix ix_list (pv 0) pe_int (fun _ _ => rfl)) pa_nil)) pe_int (nomark _))
        (pss_one (ps_set (i := 4) nd rfl (.inl rfl) (pe_ix ix_list (pe_ix ix_list (pv 0) pe_int (fun _ _ => rfl)) (pe_op op_mod (pe_callTy call_int1 rfl B.int (by decide +kernel) (pa_cons (pe_ix ix_list (pv 0) pe_int (fun _ _ => rfl)) pa_nil))
          (pe_callB call_len_seq rfl B.len PySem.boot_len (pa_cons (pe_ix ix_list (pv 0) pe_int (fun _ _ => rfl)) pa_nil))) (fun _ _ => rfl)))) pss_nil)
    (pss_cons (ps_set (i := 5) nd rfl (.inl rfl) (pe_op op_mod (pe_callTy call_int1 rfl B.int (by decide +kernel) (pa_cons (pe_op op_mul (pe_op op_add (pe_op op_add (pv 4) (pe_op op_mul pe_int (pe_ix ix_list (pv 0) pe_int (fun _ _ => rfl)))) pe_int) pe_int) pa_nil)) pe_int))
    (pss_cons (ps_set (i := 5) nd rfl (.inl rfl) (pe_op op_mod (pe_callTy call_int1 rfl B.int (by decide +kernel) (pa_cons (pe_op op_mul (pv 5) (pe_op op_add (pe_op op_fdiv (pv 5) pe_int) pe_int)) pa_nil)) pe_int))
    (pss_cons (ps_set (i := 5) nd rfl (.inl rfl) (pe_op op_mod (pe_callTy call_int1 rfl B.int (by decide +kernel) (pa_cons (pe_op op_mul (pv 5) (pe_op op_add (pe_op op_fdiv (pv 5) pe_int) pe_int)) pa_nil)) pe_int))
    (pss_one (ps_ret (pe_op op_mod (pe_callTy call_int1 rfl B.int (by decide +kernel) (pa_cons (pe_op op_fdiv (pv 5) pe_int) pa_nil)) (pv 1))))))))))), ?_⟩
  -- the pool is filled up
  refine ⟨fun σ H' => ∃ v2, σ = [some (.ref p), some (.int m), v2, none, none, none] ∧ Kp p H H', ?_, ?_⟩
  · obtain ⟨g, s2, ns, ms, d, c, e1, e2, e3⟩ := id hp
    refine ⟨_, rfl, p, _, _, _, rfl, rfl, .of e1, atI_nat (j := 2) rfl, rfl, _, rfl, ite2 (fun c1 => ?_) (fun c1 => ?_)⟩
    · refine ⟨_, rfl, p, _, _, _, rfl, rfl, .of e1, atI_nat (j := 0) rfl, g, _, rfl, .inl (.of e2), _, _, rfl, rfl, _, rfl, ite2 (fun c2 => ?_) (fun c2 => ?_)⟩
      · have hl : 0 < ns.length := by
          have := of_decide_eq_true c2
          rw [List.length_map] at this
          omega
        obtain ⟨z, rest, rfl⟩ : ∃ z r, ns = z :: r := by
          cases ns with
          | nil => exact absurd hl (Nat.lt_irrefl 0)
          | cons z r => exact ⟨z, r, rfl⟩
        have ngp : g ≠ p := ne_of e2 e1 (by
          intro z
          injection z with z
          injection z with z
          cases z)
        have nsp : s2 ≠ p := ne_of e3 e1 (by
          intro z
          injection z with z
          cases ms with
          | nil => cases z
          | cons _ _ =>
            injection z with z
            cases z)
        refine ⟨_, rfl, p, _, _, _, rfl, rfl, .of e1, atI_nat (j := 0) rfl, ?_⟩
        refine ⟨_, rfl, g, _, _, _, rfl, rfl, .of e2, atI_nat (j := 0) rfl, _, rfl, p, _, 2, 2, rfl, rfl, e1, rfl, ?_⟩
        have e2' : (upd H p (.lst ([V.ref g, .ref s2, .int d, .int c].set 2 (.int z)))) g = some (.lst ((z :: rest).map V.int)) := by rw [upd_ne ngp]; exact e2
        refine ⟨_, rfl, 1, rfl, g, _, rfl, .of e2', fun l nl => ?_⟩
        obtain ⟨cs, hcs, -⟩ := cut_ints (z :: rest) (some 1) none
        rw [hcs]
        have nlp : p ≠ l := fun y => by
          rw [← y, upd_same] at nl
          cases nl
        refine ⟨_, rfl, p, _, 0, 0, rfl, rfl, by rw [upd_ne nlp, upd_same], rfl, ?_⟩
        have nlH : H l = none := by
          rw [upd_ne nlp.symm] at nl
          exact nl
        refine ⟨_, rfl, ⟨fun b o nb e => ?_, ⟨l, s2, cs, ms, z, c, upd_same, ?_, ?_⟩, fun b i => ?_⟩⟩
        · rw [upd_ne nb, upd_ne (ne_of_none e nlH), upd_ne nb]
          exact e
        · rw [upd_ne nlp.symm, upd_same]
        · rw [upd_ne nsp, upd_ne (ne_of_none e3 nlH), upd_ne nsp]
          exact e3
        · obtain ⟨g', s', d', c', h1, h2⟩ := i
          rw [upd_same] at h1
          injection h1 with h1
          injection h1 with h1
          injection h1 with a1 h1
          injection h1 with a2 h1
          injection a1 with a1
          injection a2 with a2
          rcases h2 with rfl | rfl
          · right
            rw [← a1]
            exact nlH
          · left
            exact ⟨g, s2, _, _, e1, .inr a2.symm⟩
      · exact ⟨_, rfl, .of hp (Same.refl H)⟩
    · exact ⟨_, rfl, .of hp (Same.refl H)⟩
  rintro σ H1 ⟨v2, rfl, k1⟩
  obtain ⟨g, s2, ns, ms, d, c, e1, e2, e3⟩ := k1.pool
  have put : ∀ (x y : Int), Kp p H1 (upd H1 p (.lst [.ref g, .ref s2, .int x, .int y])) := fun x y => by
    have ngp : g ≠ p := ne_of e2 e1 (by
      intro z
      injection z with z
      cases ns with
      | nil => cases z
      | cons _ _ =>
        injection z with z
        cases z)
    have nsp : s2 ≠ p := ne_of e3 e1 (by
      intro z
      injection z with z
      cases ms with
      | nil => cases z
      | cons _ _ =>
        injection z with z
        cases z)
    refine ⟨fun b o nb e => by rw [upd_ne nb]; exact e, ⟨g, s2, ns, ms, x, y, upd_same, by rw [upd_ne ngp]; exact e2, by rw [upd_ne nsp]; exact e3⟩, fun b i => .inl ?_⟩
    obtain ⟨g', s', d', c', h1, h2⟩ := i
    rw [upd_same] at h1
    injection h1 with h1
    injection h1 with h1
    injection h1 with a1 h1
    injection h1 with a2 h1
    injection a1 with a1
    injection a2 with a2
    subst a1 a2
    exact ⟨g, s2, _, _, e1, h2⟩
  refine ⟨_, rfl, p, _, _, _, rfl, rfl, .of e1, atI_nat (j := 2) rfl, _, _, rfl, rfl, _, rfl, ite2 (fun c1 => ?_) (fun c1 => ?_)⟩
  · -- a digit of the great number
    refine ⟨_, rfl, p, _, _, _, rfl, rfl, .of e1, atI_nat (j := 2) rfl, .inl ⟨_, rfl, _, rfl, _, _, rfl, rfl, hm0, ?_⟩⟩
    refine ⟨_, rfl, p, _, _, _, rfl, rfl, .of e1, atI_nat (j := 2) rfl, _, rfl, _, _, rfl, rfl, ⟨hm0, by show m < 1073741824; omega⟩, _, rfl, p, _, 2, 2, rfl, rfl, e1, rfl, ?_⟩
    exact ⟨_, rfl, q _ _ (k1.trans (put (d / m) c)) (Int.emod_nonneg d (by omega)) (Int.emod_lt_of_pos d hm0)⟩
  · -- pool[3] = pool[3] + 1; seed = 0
    refine ⟨_, rfl, p, _, _, _, rfl, rfl, .of e1, atI_nat (j := 3) rfl, _, _, rfl, rfl, _, rfl, p, _, 3, 3, rfl, rfl, e1, rfl, ?_⟩
    have k2 := k1.trans (put d (c + 1))
    obtain ⟨g', s', ns', ms', d', c', f1, f2, f3⟩ := k2.pool
    refine ⟨fun σ H' => H' = upd H1 p (.lst [.ref g, .ref s2, .int d, .int (c + 1)]) ∧ ∃ x : Int, σ = [some (.ref p), some (.int m), v2, none, some (.int x), none], ?_, ?_⟩
    · refine ⟨_, rfl, p, _, _, _, rfl, rfl, .of f1, atI_nat (j := 1) rfl, s', _, rfl, .inl (.of f3), _, _, rfl, rfl, _, rfl, ite2 (fun c2 => ?_) (fun c2 => ?_)⟩
      · rw [List.length_map] at c2
        have hl : 0 < ms'.length := by
          have := of_decide_eq_true c2
          omega
        refine ⟨_, rfl, p, _, _, _, rfl, rfl, .of f1, atI_nat (j := 1) rfl, ?_⟩
        refine ⟨_, rfl, p, _, _, _, rfl, rfl, .of f1, atI_nat (j := 3) rfl, .inl ⟨_, rfl, ?_⟩⟩
        refine ⟨_, rfl, p, _, _, _, rfl, rfl, .of f1, atI_nat (j := 1) rfl, s', _, rfl, .inl (.of f3), _, _, rfl, rfl, ?_, ?_⟩
        · rw [List.length_map]
          show (0 : Int) < ((ms'.length : Nat) : Int)
          omega
        · rw [List.length_map]
          have h1 : 0 ≤ c' % (ms'.length : Int) := Int.emod_nonneg _ (by omega)
          have h2 : c' % (ms'.length : Int) < (ms'.length : Int) := Int.emod_lt_of_pos _ (by omega)
          obtain ⟨j, hj⟩ : ∃ j : Nat, c' % (ms'.length : Int) = (j : Int) := ⟨(c' % (ms'.length : Int)).toNat, by omega⟩
          have hjl : j < ms'.length := by omega
          exact ⟨s', _, _, .int ms'[j], rfl, rfl, .of f3, at_of hj (by rw [List.getElem?_map, List.getElem?_eq_getElem hjl]; rfl), rfl, _, rfl⟩
      · exact ⟨rfl, _, rfl⟩
    rintro σ H2 ⟨rfl, x, rfl⟩
    -- number, three times; the digit
    have big : ∀ (u v : Int), 0 < v → v ≤ 2147483647 → CMul (u % v) ((u % v) / 1013 + 69621) ∧ CMul (u % v) ((u % v) / 2011 + 40692) := fun u v h1 h2 => by
      have b1 := Int.emod_nonneg u (show v ≠ 0 by omega)
      have b2 := Int.emod_lt_of_pos u h1
      exact ⟨.inl ⟨by omega, by omega⟩, .inl ⟨by omega, by omega⟩⟩
    refine ⟨_, rfl, _, rfl, p, _, _, _, rfl, rfl, .of f1, atI_nat (j := 3) rfl, _, _, rfl, rfl, .inl ⟨by decide, by decide⟩, _, _, rfl, rfl, _, _, rfl, rfl, _, _, rfl, rfl, .inr ⟨by decide, by decide⟩, .inl ⟨_, rfl, _, _, rfl, rfl, (by show (0 : Int) < 2147483647; decide), ?_⟩⟩
    refine ⟨_, rfl, _, rfl, _, _, rfl, rfl, ⟨by decide, by decide⟩, _, _, rfl, rfl, _, _, rfl, rfl, (big _ 2147483647 (by decide) (by decide)).1, .inl ⟨_, rfl, _, _, rfl, rfl, (by show (0 : Int) < 2147483647; decide), ?_⟩⟩
    refine ⟨_, rfl, _, rfl, _, _, rfl, rfl, ⟨by decide, by decide⟩, _, _, rfl, rfl, _, _, rfl, rfl, (big _ 2147483647 (by decide) (by decide)).2, .inl ⟨_, rfl, _, _, rfl, rfl, (by show (0 : Int) < 2147483399; decide), ?_⟩⟩
    refine ⟨_, rfl, _, _, rfl, rfl, ⟨by decide, by decide⟩, .inl ⟨_, rfl, _, rfl, _, _, rfl, rfl, hm0, ?_⟩⟩
    exact q _ _ k2 (Int.emod_nonneg _ (by omega)) (Int.emod_lt_of_pos _ hm0)
end
end K4
/-! K13: _law_pick, _law_name, _law_names. -/
namespace K4
open PySem PySem.Spec PyProof.Rows L2
/-! ### texts -/
theorem cat_list (a y : PySem.Str) : (a ++ y).cps.toList = a.cps.toList ++ y.cps.toList := by
  show (a.cps ++ y.cps).toList = _
  rw [Array.toList_append]
theorem str_ext {a b : PySem.Str} (h : a.cps.toList = b.cps.toList) : a = b := by
  cases a
  cases b
  congr 1
  exact Array.toList_inj.mp h
def lets : PySem.Str := "abcdefghijklmnopqrstuvwxyz"
def zs : PySem.Str := "zzzzzzz"
theorem lets_at : ∀ d : Fin 26, lets.cps.toList[d.val]? = some (97 + d.val) := by decide +kernel
theorem zs_list : zs.cps.toList = [122, 122, 122, 122, 122, 122, 122] := by decide +kernel
/-- the name that stands in for one that was taken -/
def fall (k : Nat) : PySem.Str := zs ++ ⟨#[97 + k]⟩
theorem fall_list (k : Nat) : (fall k).cps.toList = [122, 122, 122, 122, 122, 122, 122, 97 + k] := by
  unfold fall
  rw [cat_list, zs_list]
  rfl
theorem fall_inj {j k : Nat} (h : fall j = fall k) : j = k := by
  have e := congrArg (fun z : PySem.Str => z.cps.toList) h
  simp only [fall_list] at e
  simp at e
  omega
/-- a name as it is drawn -/
def Drawn (z : PySem.Str) : Prop := z.cps.toList.length ≠ 8 ∨ z.cps.toList.head? ≠ some 122
theorem fall_not (k : Nat) : ¬ Drawn (fall k) := by
  unfold Drawn
  rw [fall_list]
  simp
def NmOk (l : List PySem.Str) : Prop := l.Nodup ∧ ∀ x ∈ l, Drawn x ∨ ∃ j, j < l.length ∧ x = fall j
theorem NmOk.nil : NmOk [] := ⟨List.nodup_nil, fun _ h => absurd h List.not_mem_nil⟩
theorem nodup_snoc {l : List PySem.Str} {z : PySem.Str} (h : l.Nodup) (n : z ∉ l) : (l ++ [z]).Nodup :=
  List.nodup_append.mpr ⟨h, List.nodup_cons.mpr ⟨List.not_mem_nil, List.nodup_nil⟩, fun a ha b hb e => n (by rw [← List.mem_singleton.mp hb, ← e]; exact ha)⟩
theorem NmOk.old {l : List PySem.Str} (h : NmOk l) (z : PySem.Str) : ∀ x ∈ l, Drawn x ∨ ∃ j, j < (l ++ [z]).length ∧ x = fall j := fun x hx => by
  rcases h.2 x hx with d | ⟨j, hj, e⟩
  · exact .inl d
  · refine .inr ⟨j, ?_, e⟩
    rw [List.length_append]
    exact Nat.lt_add_right _ hj
theorem NmOk.drawn {l : List PySem.Str} {z : PySem.Str} (h : NmOk l) (n : z ∉ l) (d : Drawn z) : NmOk (l ++ [z]) := by
  refine ⟨nodup_snoc h.1 n, fun x hx => ?_⟩
  rcases List.mem_append.mp hx with y | y
  · exact h.old z x y
  · rw [List.mem_singleton.mp y]
    exact .inl d
theorem NmOk.fallen {l : List PySem.Str} (h : NmOk l) : NmOk (l ++ [fall l.length]) := by
  have n : fall l.length ∉ l := fun y => by
    rcases h.2 _ y with d | ⟨j, hj, e⟩
    · exact fall_not _ d
    · rw [fall_inj e] at hj
      exact Nat.lt_irrefl _ hj
  refine ⟨nodup_snoc h.1 n, fun x hx => ?_⟩
  rcases List.mem_append.mp hx with y | y
  · exact h.old _ x y
  · rw [List.mem_singleton.mp y]
    refine .inr ⟨l.length, ?_, rfl⟩
    rw [List.length_append]
    exact Nat.lt_succ_self _
/-- the sizes of names -/
theorem size_at : ∀ d : Fin 6, ∃ n : Fin 9, 1 ≤ n.val ∧ ([.int 1, .int 1, .int 2, .int 2, .int 3, .int 8] : List V)[d.val]? = some (.int (n.val : Int)) := by
  intro d
  match d with
  | ⟨0, _⟩ => exact ⟨1, by decide, rfl⟩
  | ⟨1, _⟩ => exact ⟨1, by decide, rfl⟩
  | ⟨2, _⟩ => exact ⟨2, by decide, rfl⟩
  | ⟨3, _⟩ => exact ⟨2, by decide, rfl⟩
  | ⟨4, _⟩ => exact ⟨3, by decide, rfl⟩
  | ⟨5, _⟩ => exact ⟨8, by decide, rfl⟩
theorem PoolR.neL {H : Hp} {p t : Addr} {xs : List PySem.Str} (h : PoolR H p) (e : H t = some (.lst (xs.map V.str))) : t ≠ p := by
  obtain ⟨g, s, ns, ms, d, c, h1, _⟩ := h
  refine ne_of e h1 (fun z => ?_)
  injection z with z
  cases xs with
  | nil => cases z
  | cons _ _ =>
    injection z with z
    cases z
theorem sgn_list (c : Nat) : (⟨#[c]⟩ : PySem.Str).cps.toList = [c] := rfl
section
variable {P : Program} {w : World} {K : PySem.W.Frag} {mg : Str → Option Value} {base : Heap}
/-! ### _law_pick -/
theorem scPick : FnScope ["_law_pool_here", "_law_items"] ["_law_pool_here", "_law_items"] (defScope sPick) := ⟨rfl, rfl, rfl, by decide +kernel, rfl, by decide +kernel, by decide +kernel⟩
def spPick : Sp := fun vs H Q _ => ∃ (p a : Addr) (ws : List PySem.Str), vs = [.ref p, .ref a] ∧ Tw H ws a ∧ 0 < ws.length ∧ ws.length ≤ 1000 ∧ PoolR H p ∧ ∀ (H' : Hp) (u : PySem.Str), Kp p H H' → u ∈ ws → Q (.str u) H'
theorem ok_pick {f fD : Addr} {fd fdD : FuncData} (F : L2.Fun K "_law_pick" "_law_pick" sPick f fd) (B : Blt mg) (GD : FnOk P w K mg base CX0 1 fD fdD ["_law_pool_here", "_law_many"] spDraw) (bD : Binds K fdD ["_law_pool_here", "_law_many"] []) (kD : PySem.W.keepIn K (.ref fD) = true) (mD : mg "_law_draw" = some (.ref fD)) :
    FnOk P w K mg base CX0 2 f fd ["_law_pool_here", "_law_items"] spPick := by
  refine F.ok scPick (fun vs H Q E h => ?_) (fun cdv A outer s H vs Q E hr h => ?_)
  · obtain ⟨p, a, ws, rfl, _⟩ := h
    rfl
  obtain ⟨p, a, ws, rfl, hw, h0, h1, hp, q⟩ := h
  refine ⟨_, pss_one (ps_ret (pe_ix ix_tup (pv 1) (pe_call GD hr rfl mD kD bD .nil pass0 (pa_cons (pv 0) (pa_cons (pe_callB call_len_seq rfl B.len PySem.boot_len (pa_cons (pv 1) pa_nil)) pa_nil))) (fun _ _ => rfl))), ?_⟩
  refine ⟨_, rfl, _, rfl, _, rfl, a, _, rfl, .inr (.inl hw), p, _, rfl, ?_, ?_, hp, fun H1 d k1 hd0 hd1 => ?_⟩
  · rw [List.length_map]
    omega
  · rw [List.length_map]
    omega
  · rw [List.length_map] at hd1
    obtain ⟨j, rfl⟩ : ∃ j : Nat, d = (j : Int) := ⟨d.toNat, by omega⟩
    have hj : j < ws.length := by omega
    refine ⟨a, _, _, .str ws[j], rfl, rfl, .inl ((k1.tk hp).rd hw), atI_nat (by rw [List.getElem?_map, List.getElem?_eq_getElem hj]; rfl), q H1 _ k1 (List.getElem_mem hj)⟩
/-! ### _law_name -/
theorem scName : FnScope ["_law_pool_here", "_law_taken", "_law_letters", "_law_size", "_law_word", "_law_k"] ["_law_pool_here", "_law_taken"] (defScope sName) := ⟨rfl, rfl, rfl, by decide +kernel, rfl, by decide +kernel, by decide +kernel⟩
def spName : Sp := fun vs H Q _ => ∃ (p t : Addr) (xs : List PySem.Str), vs = [.ref p, .ref t] ∧ H t = some (.lst (xs.map V.str)) ∧ xs.length < 20 ∧ NmOk xs ∧ PoolR H p ∧ ∀ (H' : Hp) (z : PySem.Str), Kp p H H' → NmOk (xs ++ [z]) → Q (.str z) H'
theorem ok_name {f fD : Addr} {fd fdD : FuncData} (F : L2.Fun K "_law_name" "_law_name" sName f fd) (B : Blt mg) (GD : FnOk P w K mg base CX0 1 fD fdD ["_law_pool_here", "_law_many"] spDraw) (bD : Binds K fdD ["_law_pool_here", "_law_many"] []) (kD : PySem.W.keepIn K (.ref fD) = true) (mD : mg "_law_draw" = some (.ref fD)) :
    FnOk P w K mg base CX0 2 f fd ["_law_pool_here", "_law_taken"] spName := by
  refine F.ok scName (fun vs H Q E h => ?_) (fun cdv A outer s H vs Q E hr h => ?_)
  · obtain ⟨p, t, xs, rfl, _⟩ := h
    rfl
  obtain ⟨p, t, xs, rfl, ht, hxl, hxs, hp, q⟩ := h
  have nd := scName.nd
  refine ⟨_, pss_cons (ps_set (i := 2) nd rfl (.inl rfl) pe_str)
    (pss_cons (ps_set (i := 3) nd rfl (.inl rfl) (pe_ix ix_tup (pe_tup (pa_cons pe_int (pa_cons pe_int (pa_cons pe_int (pa_cons pe_int (pa_cons pe_int (pa_cons pe_int pa_nil)))))))
        (pe_call GD hr rfl mD kD bD .nil pass0 (pa_cons (pv 0) (pa_cons pe_int pa_nil))) (fun _ _ => rfl)))
    (pss_cons (ps_set (i := 4) nd rfl (.inl rfl) (pe_ix ix_str (pv 2) (pe_call GD hr rfl mD kD bD .nil pass0 (pa_cons (pv 0) (pa_cons (pe_op op_sub pe_int (pe_callTy call_int1 rfl B.int (by decide +kernel) (pa_cons (pe_cmpR op_eq (pv 3) pe_int (nomark _)) pa_nil))) pa_nil))) (fun _ _ => rfl)))
    (pss_cons (ps_for PassesOwn.never rfl (pi_range1 rfl B.rng (pa_cons (pe_op op_sub (pv 3) pe_int) pa_nil)) (pg_name (i := 5) nd rfl (.inl rfl))
      (pss_one (ps_set (i := 4) nd rfl (.inl rfl) (pe_op op_add_str (pv 4) (pe_ix ix_str (pv 2) (pe_call GD hr rfl mD kD bD .nil pass0 (pa_cons (pv 0) (pa_cons pe_int pa_nil))) (fun _ _ => rfl))))))
    (pss_cons (ps_if (pt_cmpR op_in_seq (pv 4) (pv 1) rfl) (pss_one (ps_ret (pe_op op_add_str pe_str (pe_ix ix_str (pv 2) (pe_callB call_len_seq rfl B.len PySem.boot_len (pa_cons (pv 1) pa_nil)) (fun _ _ => rfl))))) pss_nil)
    (pss_one (ps_ret (pv 4))))))), ?_⟩
  have ntp := hp.neL ht
  have lsz : lets.length ≤ sizeLine := by decide +kernel
  -- _law_size
  refine ⟨by show 6 ≤ sizeLine; decide, fun T nT => ?_⟩
  have s0 : Same H (upd H T (.tup [.int 1, .int 1, .int 2, .int 2, .int 3, .int 8])) := same_new nT _
  refine ⟨_, rfl, p, 6, rfl, by decide, by decide, hp.mono s0, fun H1 d1 k1 h10 h11 => ?_⟩
  obtain ⟨j1, rfl⟩ : ∃ j : Nat, d1 = (j : Int) := ⟨d1.toNat, by omega⟩
  obtain ⟨n, hn1, hn⟩ := size_at ⟨j1, by omega⟩
  have k1' : Kp p H H1 := (Kp.of hp s0).trans k1
  have hT1 : H1 T = some (.tup [.int 1, .int 1, .int 2, .int 2, .int 3, .int 8]) := k1.tk (hp.mono s0) _ _ rfl upd_same
  refine ⟨T, _, _, _, rfl, rfl, .of hT1, atI_nat hn, ?_⟩
  -- _law_word
  refine ⟨_, rfl, _, rfl, _, rfl, rfl, .inr ⟨_, rfl, _, _, rfl, rfl, ?_⟩⟩
  have hm : ∃ m : Int, (26 : Int) - (if decide (V.int (n.val : Int) = V.int 8) = true then 1 else 0) = m ∧ 0 < m ∧ m ≤ 26 ∧ (n.val = 8 → m ≤ 25) := by
    refine ⟨_, rfl, ?_⟩
    by_cases e8 : n.val = 8
    · rw [e8]
      simp
    · have : ¬ V.int (n.val : Int) = V.int 8 := fun z => e8 (by injection z with z; omega)
      rw [decide_eq_false this]
      simp
      exact fun h => absurd h e8
  obtain ⟨m, em, hm0, hm26, hm8⟩ := hm
  refine ⟨p, m, (by subst em; rfl), hm0, by omega, k1'.pool, fun H2 d2 k2 h20 h21 => ?_⟩
  obtain ⟨j2, rfl⟩ : ∃ j : Nat, d2 = (j : Int) := ⟨d2.toNat, by omega⟩
  have k2' := k1'.trans k2
  refine ⟨lets, _, _, rfl, rfl, lsz, atI_nat (lets_at ⟨j2, by omega⟩), ?_⟩
  have hn9 : n.val < 9 := n.isLt
  -- the other letters
  refine ⟨_, rfl, _, _, rfl, rfl, (n.val : Int) - 1, rfl, by omega, by omega, ?_⟩
  refine for_range (lo := 0) (n := ((n.val : Int) - 1).toNat) (fun i σ H' => ∃ (z : PySem.Str) (l : List Nat) (v : Option V), σ = [some (.ref p), some (.ref t), some (.str lets), some (.int (n.val : Int)), some (.str z), v] ∧ Kp p H H' ∧ z.cps.toList = (97 + j2) :: l ∧ l.length = i)
    ⟨⟨#[97 + j2]⟩, [], none, rfl, k2', rfl, rfl⟩ ?_ ?_
  · rintro i σ H3 hi ⟨z, l, v, rfl, k3, ez, el⟩
    refine ⟨_, rfl, _, rfl, _, rfl, p, 26, rfl, by decide, by decide, k3.pool, fun H4 d4 k4 h40 h41 => ?_⟩
    obtain ⟨j4, rfl⟩ : ∃ j : Nat, d4 = (j : Int) := ⟨d4.toNat, by omega⟩
    refine ⟨lets, _, _, rfl, rfl, lsz, atI_nat (lets_at ⟨j4, by omega⟩), _, _, rfl, rfl, ?_, ?_⟩
    · have e1 : z.length = l.length + 1 := by
        show z.cps.size = _
        rw [← Array.length_toList, ez]
        rfl
      rw [e1]
      show l.length + 1 + 1 ≤ sizeLine
      exact small (by omega)
    · refine ⟨_, l ++ [97 + j4], _, rfl, k3.trans k4, ?_, ?_⟩
      · rw [cat_list, ez]
        rfl
      · rw [List.length_append, el]
        rfl
  rintro σ H3 ⟨z, l, v, rfl, k3, ez, el⟩
  have hd : Drawn z := by
    unfold Drawn
    rw [ez]
    by_cases e8 : n.val = 8
    · right
      have := hm8 e8
      simp
      omega
    · left
      rw [List.length_cons]
      omega
  have ht3 := k3.keep t _ ntp ht
  -- if _law_word in _law_taken
  refine ⟨_, rfl, _, rfl, t, _, rfl, .inl (.of ht3), rfl, flat_strs xs, _, rfl, ?_⟩
  rw [inV_str]
  by_cases mz : z ∈ xs
  · rw [decide_eq_true mz]
    refine ⟨_, rfl, _, rfl, t, _, rfl, .inl (.of ht3), lets, _, _, rfl, rfl, lsz, ?_, zs, _, rfl, rfl, (by show zs.length + 1 ≤ sizeLine; decide +kernel), q H3 _ k3 hxs.fallen⟩
    · rw [List.length_map]
      exact atI_nat (lets_at ⟨xs.length, by omega⟩)
  · rw [decide_eq_false mz]
    exact ⟨_, rfl, q H3 z k3 (hxs.drawn mz hd)⟩
/-! ### _law_names -/
theorem scNames : FnScope ["_law_pool_here", "_law_count", "_law_names_here", "_law_k"] ["_law_pool_here", "_law_count"] (defScope sNames) := ⟨rfl, rfl, rfl, by decide +kernel, rfl, by decide +kernel, by decide +kernel⟩
def spNames : Sp := fun vs H Q _ => ∃ (p : Addr) (n : Nat), vs = [.ref p, .int (n : Int)] ∧ n ≤ 20 ∧ PoolR H p ∧ ∀ (H' : Hp) (l : Addr) (xs : List PySem.Str), Kp p H H' → H l = none → H' l = some (.lst (xs.map V.str)) → xs.length = n → xs.Nodup → Q (.ref l) H'
theorem ok_names {f fN : Addr} {fd fdN : FuncData} (F : L2.Fun K "_law_names" "_law_names" sNames f fd) (B : Blt mg) (GN : FnOk P w K mg base CX0 2 fN fdN ["_law_pool_here", "_law_taken"] spName) (bN : Binds K fdN ["_law_pool_here", "_law_taken"] []) (kN : PySem.W.keepIn K (.ref fN) = true) (mN : mg "_law_name" = some (.ref fN)) :
    FnOk P w K mg base CX0 3 f fd ["_law_pool_here", "_law_count"] spNames := by
  refine F.ok scNames (fun vs H Q E h => ?_) (fun cdv A outer s H vs Q E hr h => ?_)
  · obtain ⟨p, n, rfl, _⟩ := h
    rfl
  obtain ⟨p, n, rfl, hn, hp, q⟩ := h
  have nd := scNames.nd
  refine ⟨_, pss_cons (ps_set (i := 2) nd rfl (.inl rfl) (pe_lst pa_nil))
    (pss_cons (ps_for PassesOwn.never rfl (pi_range1 rfl B.rng (pa_cons (pv 1) pa_nil)) (pg_name (i := 3) nd rfl (.inl rfl))
      (pss_one (ps_expr (pe_bm PySem.F.plainAttrs_list PySem.F.slot_list_append PySem.F.type_list_append mt_append (pv 2) (pa_cons (pe_call GN hr rfl mN kN bN .nil pass0 (pa_cons (pv 0) (pa_cons (pv 2) pa_nil))) pa_nil)))))
    (pss_one (ps_ret (pv 2)))), ?_⟩
  refine ⟨by show 0 ≤ sizeLine; decide, fun l nl => ?_⟩
  have nlp := hp.nn nl
  refine ⟨_, rfl, (n : Int), rfl, by omega, by omega, ?_⟩
  have en : ((n : Int)).toNat = n := by omega
  rw [en]
  refine for_range (lo := 0) (n := n) (fun i σ H' => ∃ (xs : List PySem.Str) (v : Option V), σ = [some (.ref p), some (.int (n : Int)), some (.ref l), v] ∧ KpD p l H H' ∧ H' l = some (.lst (xs.map V.str)) ∧ xs.length = i ∧ NmOk xs)
    ⟨[], none, rfl, .start hp nl _, upd_same, rfl, .nil⟩ ?_ ?_
  · rintro i σ H1 hi ⟨xs, v, rfl, k1, e1, hl, hx⟩
    refine ⟨_, rfl, .inl ⟨rfl, _, .of e1⟩, _, rfl, _, rfl, p, l, xs, rfl, e1, by omega, hx, k1.kp.pool, fun H2 z k2 hx2 => ?_⟩
    have e2 := k2.keep l _ nlp e1
    refine ⟨l, _, _, rfl, rfl, e2, ?_, ?_⟩
    · rw [List.length_map]
      have : xs.length ≤ 1000 := by omega
      exact small1000 this
    · refine ⟨xs ++ [z], _, rfl, (k1.step e1 k2).put hp nl _, ?_, ?_, hx2⟩
      · rw [upd_same, List.map_append]
        rfl
      · rw [List.length_append, hl]
        rfl
  · rintro σ H1 ⟨xs, v, rfl, k1, e1, hl, hx⟩
    exact ⟨_, rfl, q H1 l xs k1.kp nl e1 hl hx.1⟩
end
end K4
/-! K14: _law_row_of, _law_tree. -/
namespace K4
open PySem PySem.Spec PyProof.Rows L2
section
variable {P : Program} {w : World} {K : PySem.W.Frag} {mg : Str → Option Value} {base : Heap}
/-! ### _law_row_of -/
theorem scRowOf : FnScope ["_law_pool_here", "_law_words", "_law_word"] ["_law_pool_here", "_law_words"] (defScope sRowOf) := ⟨rfl, rfl, rfl, by decide +kernel, rfl, by decide +kernel, by decide +kernel⟩
def spRowOf : Sp := fun vs H Q _ => ∃ (p a : Addr) (ws : List PySem.Str), vs = [.ref p, .ref a] ∧ Tw H ws a ∧ 0 < ws.length ∧ ws.length ≤ 3 ∧ PoolR H p ∧
  ∀ (H' : Hp) (r : Addr) (row : List PySem.Str), Kp p H H' → H r = none → Tx H' row r → rowOk ws row = true → Q (.ref r) H'
theorem ok_rowOf {f fP : Addr} {fd fdP : FuncData} (F : L2.Fun K "_law_row_of" "_law_row_of" sRowOf f fd) (B : Blt mg) (GP : FnOk P w K mg base CX0 2 fP fdP ["_law_pool_here", "_law_items"] spPick) (bP : Binds K fdP ["_law_pool_here", "_law_items"] []) (kP : PySem.W.keepIn K (.ref fP) = true) (mP : mg "_law_pick" = some (.ref fP)) :
    FnOk P w K mg base CX0 3 f fd ["_law_pool_here", "_law_words"] spRowOf := by
  refine F.ok scRowOf (fun vs H Q E h => ?_) (fun cdv A outer s H vs Q E hr h => ?_)
  · obtain ⟨p, a, ws, rfl, _⟩ := h
    rfl
  obtain ⟨p, a, ws, rfl, hw, h0, h1, hp, q⟩ := h
  have nd := scRowOf.nd
  refine ⟨_, pss_one (ps_ret (pe_callTy call_tuple_of rfl B.tup (by decide +kernel) (pa_cons (pe_lc (own := [("_law_word", 2)]) (g := gName 2) (tt := tYes) (te := tCall spPick [] E0 (tCons (tVar 0) (tCons (tVar 1) tNil))) rfl nd (pi_tup (pv 1))
    (blkOk_by (own := [("_law_word", 2)]) (N := ["_law_pool_here", "_law_words", "_law_word"]) (sc := defScope sRowOf) (by decide +kernel))
    (fun _ _ _ _ _ => by exact pg_name (i := 2) nd rfl (.inl rfl)) (fun _ _ _ _ _ => pts_nil)
    (fun _ _ _ _ _ => by exact pe_call GP hr rfl mP kP bP .nil pass0 (pa_cons (pv 0) (pa_cons (pv 1) pa_nil)))) pa_nil))), ?_⟩
  refine ⟨_, rfl, a, rfl, ⟨_, .inl hw⟩, fun D nD => ?_⟩
  refine walk_ex (walk_tup (K := K) (a := a) (xs := ws.map V.str)) (fun i H' => ∃ row : List PySem.Str, KpD p D H H' ∧ H' D = some (.lst (row.map V.str)) ∧ row.length = i ∧ ∀ u ∈ row, u ∈ ws) ⟨[], .start hp nD _, upd_same, rfl, fun _ h => absurd h List.not_mem_nil⟩
    (fun i H' _ ⟨_, k, _⟩ => .inl ((k.kp.tk hp).rd hw)) ?_ ?_
  · rintro i x H1 H1' hi ⟨row, k1, e1, hl, hm⟩ ⟨rfl, hx⟩
    rw [List.length_map] at hi
    refine ⟨rfl, ?_⟩
    refine ⟨_, rfl, _, rfl, p, a, ws, rfl, (k1.kp.tk hp).rd hw, h0, by omega, k1.kp.pool, fun H2 u k2 hu => ?_⟩
    have nDp := hp.nn nD
    have e2 := k2.keep D _ nDp e1
    refine ⟨_, e2, ?_, row ++ [u], (k1.step e1 k2).put hp nD _, ?_, ?_, fun v hv => ?_⟩
    · rw [List.length_map]
      have : row.length ≤ 1000 := by omega
      exact small1000 this
    · rw [upd_same, List.map_append]
      rfl
    · rw [List.length_append, hl]
      rfl
    · rcases List.mem_append.mp hv with m | m
      · exact hm v m
      · rw [List.mem_singleton.mp m]
        exact hu
  · rintro H1 ⟨row, k1, e1, hl, hm⟩
    rw [List.length_map] at hl
    refine ⟨D, _, rfl, .inl ⟨.of e1, fun r nr => ?_⟩⟩
    refine q _ r row (k1.kp.same (same_new nr _)) (k1.kp.free nr) upd_same ?_
    unfold rowOk
    rw [decide_eq_true hl, Bool.true_and, List.all_eq_true]
    exact fun u hu => decide_eq_true (hm u hu)
/-! ### _law_tree -/
theorem scTree : FnScope ["_law_pool_here", "_law_words", "_law_slots", "_law_deep", "_law_room", "_law_kind", "_law_table_here", "_law_half", "_law_first", "_law_word"] ["_law_pool_here", "_law_words", "_law_slots", "_law_deep", "_law_room"] (defScope sTree) := ⟨rfl, rfl, rfl, by decide +kernel, rfl, by decide +kernel, by decide +kernel⟩
def spTree (n : Nat) : Sp := fun vs H Q _ => ∃ (p a b : Addr) (d r : Nat) (ws ss : List PySem.Str), vs = [.ref p, .ref a, .ref b, .int (d : Int), .int (r : Int)] ∧ d < n ∧ 1 ≤ r ∧ r ≤ 12 ∧ Tw H ws a ∧ Tw H ss b ∧ 0 < ws.length ∧ ws.length ≤ 3 ∧ 0 < ss.length ∧ ss.length ≤ 4 ∧ PoolR H p ∧
  ∀ (H' : Hp) (x : V) (e : Ex PySem.Str), Kp p H H' → ExR H' x e → chk ws ss e = true → e.size ≤ r → e.deep ≤ d + 1 → Q x H'
abbrev psTree : List PySem.Str := ["_law_pool_here", "_law_words", "_law_slots", "_law_deep", "_law_room"]
theorem tree_none {k : Nat} {f : Addr} {fd : FuncData} : FnOk P w K mg base CX0 k f fd psTree (spTree 0) := by
  have no : ∀ vs H Q E, ¬ spTree 0 vs H Q E := fun vs H Q E h => by
    obtain ⟨p, a, b, d, r, ws, ss, _, h1, _⟩ := h
    omega
  exact ⟨fun vs H Q E h => absurd h (no vs H Q E), fun A outer s H args us vs Q E _ _ _ _ h => absurd h (no vs H Q E)⟩
theorem ok_tree {f fD fP fR : Addr} {fd fdD fdP fdR : FuncData} (F : L2.Fun K "_law_tree" "_law_tree" sTree f fd) (bF : Binds K fd psTree []) (kF : PySem.W.keepIn K (.ref f) = true) (mF : mg "_law_tree" = some (.ref f)) (B : Blt mg)
    (GD : FnOk P w K mg base CX0 1 fD fdD ["_law_pool_here", "_law_many"] spDraw) (bD : Binds K fdD ["_law_pool_here", "_law_many"] []) (kD : PySem.W.keepIn K (.ref fD) = true) (mD : mg "_law_draw" = some (.ref fD))
    (GP : FnOk P w K mg base CX0 2 fP fdP ["_law_pool_here", "_law_items"] spPick) (bP : Binds K fdP ["_law_pool_here", "_law_items"] []) (kP : PySem.W.keepIn K (.ref fP) = true) (mP : mg "_law_pick" = some (.ref fP))
    (GR : FnOk P w K mg base CX0 3 fR fdR ["_law_pool_here", "_law_words"] spRowOf) (bR : Binds K fdR ["_law_pool_here", "_law_words"] []) (kR : PySem.W.keepIn K (.ref fR) = true) (mR : mg "_law_row_of" = some (.ref fR)) :
    ∀ n : Nat, FnOk P w K mg base CX0 (n + 3) f fd psTree (spTree n)
  | 0 => tree_none
  | n + 1 => by
    have ih := ok_tree F bF kF mF B GD bD kD mD GP bP kP mP GR bR kR mR n
    refine F.ok scTree (fun vs H Q E h => ?_) (fun cdv A outer s H vs Q E hr h => ?_)
    · obtain ⟨p, a, b, d, r, ws, ss, rfl, _⟩ := h
      rfl
    obtain ⟨p, a, b, d, r, ws, ss, rfl, hdn, hr0, hr12, hw, hs, hw0, hw3, hs0, hs4, hp, q⟩ := h
    have nd := scTree.nd
    have hr1 : Room 1 _ := hr.mono (by omega)
    have hr2 : Room 2 _ := hr.mono (by omega)
    have hr3 : Room 3 _ := hr.mono (by omega)
    refine ⟨_, pss_cons (ps_set (i := 5) nd rfl (.inl rfl) (pe_call GD hr1 rfl mD kD bD .nil pass0 (pa_cons (pv 0) (pa_cons pe_int pa_nil))))
      (pss_cons (ps_if (PW.pt (pw_or (pt_cmpR op_eq (pv 3) pe_int (nomark _)) (pw_or (pt_cmpR op_lt (pv 4) pe_int (nomark _)) (pw_or1 (pt_cmpR op_eq (pv 5) pe_int (nomark _))))))
        (pss_cons (ps_if (pt_cmpR op_eq (pe_call GD hr1 rfl mD kD bD .nil pass0 (pa_cons (pv 0) (pa_cons pe_int pa_nil))) pe_int (nomark _))
            (pss_one (ps_ret (pe_tup (pa_cons pe_str (pa_cons (pe_call GP hr2 rfl mP kP bP .nil pass0 (pa_cons (pv 0) (pa_cons (pv 1) pa_nil))) pa_nil))))) pss_nil)
          (pss_one (ps_ret (pe_tup (pa_cons pe_str (pa_cons (pe_call GP hr2 rfl mP kP bP .nil pass0 (pa_cons (pv 0) (pa_cons (pv 2) pa_nil))) pa_nil)))))) pss_nil)
      (pss_cons (ps_if (pt_cmpR op_lt (pv 5) pe_int (nomark _))
        (pss_one (ps_ret (pe_tup (pa_cons pe_str (pa_cons (pe_call GR hr3 rfl mR kR bR .nil pass0 (pa_cons (pv 0) (pa_cons (pv 1) pa_nil)))
          (pa_cons (pe_call ih hr rfl mF kF bF .nil pass0 (pa_cons (pv 0) (pa_cons (pv 1) (pa_cons (pv 2) (pa_cons (pe_op op_sub (pv 3) pe_int) (pa_cons (pe_op op_sub (pv 4) pe_int) pa_nil)))))) pa_nil)))))) pss_nil)
      (pss_cons (ps_set (i := 6) nd rfl (.inl rfl) (pe_callTy call_tuple_of rfl B.tup (by decide +kernel) (pa_cons (pe_lc (own := [("_law_word", 9)]) (g := gName 9) (tt := tYes) (te := tCall spRowOf [] E0 (tCons (tVar 0) (tCons (tVar 1) tNil))) rfl nd (pi_tup (pv 1))
          (blkOk_by (own := [("_law_word", 9)]) (N := ["_law_pool_here", "_law_words", "_law_slots", "_law_deep", "_law_room", "_law_kind", "_law_table_here", "_law_half", "_law_first", "_law_word"]) (sc := defScope sTree) (by decide +kernel))
          (fun _ _ _ _ _ => by exact pg_name (i := 9) nd rfl (.inl rfl)) (fun _ _ _ _ _ => pts_nil)
          (fun _ _ _ _ _ => by exact pe_call GR hr3 rfl mR kR bR .nil pass0 (pa_cons (pv 0) (pa_cons (pv 1) pa_nil)))) pa_nil)))
      (pss_cons (ps_set (i := 7) nd rfl (.inl rfl) (pe_op op_fdiv (pe_op op_sub (pv 4) pe_int) pe_int))
      (pss_cons (ps_set (i := 8) nd rfl (.inl rfl) (pe_call ih hr rfl mF kF bF .nil pass0 (pa_cons (pv 0) (pa_cons (pv 1) (pa_cons (pv 2) (pa_cons (pe_op op_sub (pv 3) pe_int) (pa_cons (pv 7) pa_nil)))))))
      (pss_one (ps_ret (pe_tup (pa_cons pe_str (pa_cons (pv 6) (pa_cons (pv 8) (pa_cons (pe_call ih hr rfl mF kF bF .nil pass0 (pa_cons (pv 0) (pa_cons (pv 1) (pa_cons (pv 2) (pa_cons (pe_op op_sub (pv 3) pe_int) (pa_cons (pe_op op_sub (pe_op op_sub (pv 4) pe_int) (pv 7)) pa_nil)))))) pa_nil)))))))))))), ?_⟩
    -- _law_kind
    refine ⟨_, rfl, p, 6, rfl, by decide, by decide, hp, fun H1 kd k1 hk0 hk6 => ?_⟩
    have tk1 := k1.tk hp
    have hw1 := tk1.rd hw
    have hs1 := tk1.rd hs
    -- a leaf
    have leaf : (tIfS (tTest (tOp rEq (tCall spDraw [] E0 (tCons (tVar 0) (tCons (tC (.int 4)) tNil))) (tC (.int 0))))
          (tRet (tTup (tCons (tC (.str "word")) (tCons (tCall spPick [] E0 (tCons (tVar 0) (tCons (tVar 1) tNil))) tNil)))) tNext)
        { nx := fun σ H' => tRet (tTup (tCons (tC (.str "slot")) (tCons (tCall spPick [] E0 (tCons (tVar 0) (tCons (tVar 2) tNil))) tNil))) { nx := fun _ H' => Q .non H', rt := Q } σ H', rt := Q }
        [some (.ref p), some (.ref a), some (.ref b), some (.int (d : Int)), some (.int (r : Int)), some (.int kd), none, none, none, none] H1 := by
      refine ⟨_, rfl, p, 4, rfl, by decide, by decide, k1.pool, fun H2 d2 k2 _ _ => ?_⟩
      have k2' := k1.trans k2
      have tk2 := k2'.tk hp
      refine ⟨rfl, _, rfl, ite2 (fun _ => ?_) (fun _ => ?_)⟩
      · refine ⟨_, rfl, _, rfl, p, a, ws, rfl, tk2.rd hw, hw0, by omega, k2'.pool, fun H3 u k3 hu => ?_⟩
        refine ⟨by show 2 ≤ sizeLine; decide, fun c nc => ?_⟩
        refine q _ (.ref c) (.word u) ((k2'.trans k3).same (same_new nc _)) ⟨c, rfl, upd_same⟩ (decide_eq_true hu) hr0 ?_
        show 1 ≤ d + 1
        omega
      · refine ⟨_, rfl, _, rfl, p, b, ss, rfl, tk2.rd hs, hs0, by omega, k2'.pool, fun H3 u k3 hu => ?_⟩
        refine ⟨by show 2 ≤ sizeLine; decide, fun c nc => ?_⟩
        refine q _ (.ref c) (.slot u) ((k2'.trans k3).same (same_new nc _)) ⟨c, rfl, upd_same⟩ (decide_eq_true hu) hr0 ?_
        show 1 ≤ d + 1
        omega
    refine ⟨_, rfl, rfl, _, rfl, ite2 (fun _ => leaf) (fun c1 => ?_)⟩
    refine ⟨_, rfl, _, _, rfl, rfl, _, rfl, ite2 (fun _ => leaf) (fun c2 => ?_)⟩
    refine ⟨_, rfl, rfl, _, rfl, ite2 (fun _ => leaf) (fun _ => ?_)⟩
    have hd1 : 1 ≤ d := by
      cases d with
      | zero => exact absurd (decide_eq_true rfl) c1
      | succ d => omega
    have hr3' : 3 ≤ r := by
      have : ¬ ((r : Int) < 3) := fun z => c2 (decide_eq_true z)
      omega
    have ed : (d : Int) - 1 = ((d - 1 : Nat) : Int) := by omega
    have er : (r : Int) - 1 = ((r - 1 : Nat) : Int) := by omega
    refine ⟨_, rfl, _, _, rfl, rfl, _, rfl, ite2 (fun _ => ?_) (fun _ => ?_)⟩
    · -- ('map', row, tree)
      refine ⟨_, rfl, _, rfl, p, a, ws, rfl, hw1, hw0, hw3, k1.pool, fun H2 rr row k2 nrr hrow hrok => ?_⟩
      have k2' := k1.trans k2
      have tk2 := k2'.tk hp
      refine ⟨_, rfl, _, rfl, _, rfl, _, rfl, _, _, rfl, rfl, _, rfl, _, _, rfl, rfl, ?_⟩
      refine ⟨p, a, b, d - 1, r - 1, ws, ss, (by rw [← ed, ← er]; rfl), by omega, by omega, by omega, tk2.rd hw, tk2.rd hs, hw0, hw3, hs0, hs4, k2'.pool, fun H3 x e k3 hx hc hsz hdp => ?_⟩
      refine ⟨by show 3 ≤ sizeLine; decide, fun c nc => ?_⟩
      have s4 := same_new nc (.tup [.str "map", .ref rr, x])
      refine q _ (.ref c) (.map row e) ((k2'.trans k3).same s4) ⟨c, rr, x, rfl, upd_same, (hrow.mono (k3.tk k2'.pool)).mono (tk_same s4), hx.mono (tk_same s4)⟩ ?_ ?_ ?_
      · show (rowOk ws row && chk ws ss e) = true
        rw [hrok, hc]
        rfl
      · show 1 + e.size ≤ r
        omega
      · show 1 + e.deep ≤ d + 1
        omega
    · -- _law_table_here
      refine ⟨_, rfl, a, rfl, ⟨_, .inl hw1⟩, fun D nD => ?_⟩
      refine walk_ex (walk_tup (K := K) (a := a) (xs := ws.map V.str)) (fun i H' => ∃ (acc : List V) (rows : List (List PySem.Str)), KpD p D H1 H' ∧ H' D = some (.lst acc) ∧ Paired (RowV H') acc rows ∧ rows.length = i ∧ ∀ row ∈ rows, rowOk ws row = true)
        ⟨[], [], .start k1.pool nD _, upd_same, .nil, rfl, fun _ h => absurd h List.not_mem_nil⟩ (fun i H' _ ⟨_, _, k, _⟩ => .inl ((k.kp.tk k1.pool).rd hw1)) ?_ ?_
      · rintro i x H2 H2' hi ⟨acc, rows, k2, e2, hrows, hl, hok⟩ ⟨rfl, hx⟩
        rw [List.length_map] at hi
        refine ⟨rfl, ?_⟩
        refine ⟨_, rfl, _, rfl, p, a, ws, rfl, (k2.kp.tk k1.pool).rd hw1, hw0, hw3, k2.kp.pool, fun H3 rr row k3 nrr hrow hrok => ?_⟩
        have nDp := k1.pool.nn nD
        have e3 := k3.keep D _ nDp e2
        have tk3 := k3.tk k2.kp.pool
        have tk4 : TK H3 (upd H3 D (.lst (acc ++ [.ref rr]))) := tk_lst e3 _
        have hal := paired_length hrows
        refine ⟨_, e3, ?_, acc ++ [.ref rr], rows ++ [row], (k2.step e2 k3).put k1.pool nD _, upd_same, ?_, ?_, fun r0 hr0 => ?_⟩
        · have : acc.length ≤ 1000 := by omega
          exact small1000 this
        · exact paired_append (paired_mono (fun v xs ⟨c, e, t⟩ => ⟨c, e, t.mono (tk3.trans tk4)⟩) hrows) (.cons ⟨rr, rfl, hrow.mono tk4⟩ .nil)
        · rw [List.length_append, hl]
          rfl
        · rcases List.mem_append.mp hr0 with m | m
          · exact hok r0 m
          · rw [List.mem_singleton.mp m]
            exact hrok
      rintro H2 ⟨acc, rows, k2, e2, hrows, hl, hok⟩
      rw [List.length_map] at hl
      refine ⟨D, acc, rfl, .inl ⟨.of e2, fun T nT => ?_⟩⟩
      have s3 := same_new nT (.tup acc)
      have k3 : Kp p H (upd H2 T (.tup acc)) := (k1.trans k2.kp).same s3
      have hT : SqA (upd H2 T (.tup acc)) rows T := ⟨acc, upd_same, paired_mono (fun v xs ⟨c, e, t⟩ => ⟨c, e, t.mono (tk_same s3)⟩) hrows⟩
      generalize upd H2 T (.tup acc) = H3 at s3 k3 hT
      have tk3 := k3.tk hp
      -- _law_half, _law_first
      have eh : ((r : Int) - 1) / 2 = (((r - 1) / 2 : Nat) : Int) := by omega
      refine ⟨_, rfl, _, _, rfl, rfl, _, _, rfl, rfl, ⟨by decide, by decide⟩, ?_⟩
      refine ⟨_, rfl, _, rfl, _, rfl, _, rfl, _, _, rfl, rfl, _, rfl, ?_⟩
      refine ⟨p, a, b, d - 1, (r - 1) / 2, ws, ss, (by rw [← ed, ← eh]; rfl), by omega, by omega, by omega, tk3.rd hw, tk3.rd hs, hw0, hw3, hs0, hs4, k3.pool, fun H4 x e k4 hx hc hsz hdp => ?_⟩
      have k4' := k3.trans k4
      have tk4 := k4'.tk hp
      -- ('pair', table, first, tree)
      have e2h : (r : Int) - 1 - ((r : Int) - 1) / 2 = ((r - 1 - (r - 1) / 2 : Nat) : Int) := by omega
      refine ⟨_, rfl, _, rfl, _, rfl, _, rfl, _, rfl, _, rfl, _, _, rfl, rfl, _, rfl, _, _, rfl, rfl, _, rfl, _, _, rfl, rfl, ?_⟩
      refine ⟨p, a, b, d - 1, r - 1 - (r - 1) / 2, ws, ss, (by rw [← ed, ← e2h]; rfl), by omega, by omega, by omega, tk4.rd hw, tk4.rd hs, hw0, hw3, hs0, hs4, k4'.pool, fun H5 y e' k5 hy hc' hsz' hdp' => ?_⟩
      refine ⟨by show 4 ≤ sizeLine; decide, fun c nc => ?_⟩
      have s6 := same_new nc (.tup [.str "pair", .ref T, x, y])
      have tk45 := k4.tk k3.pool
      have tk5 := k5.tk k4'.pool
      refine q _ (.ref c) (.pair rows e e') ((k4'.trans k5).same s6) ⟨c, T, x, y, rfl, upd_same, ((hT.mono tk45).mono tk5).mono (tk_same s6), (hx.mono tk5).mono (tk_same s6), hy.mono (tk_same s6)⟩ ?_ ?_ ?_
      · show (sqOk ws rows && (chk ws ss e && chk ws ss e')) = true
        have hsq : sqOk ws rows = true := by
          unfold sqOk
          rw [decide_eq_true hl, Bool.true_and, List.all_eq_true]
          exact hok
        rw [hsq, hc, hc']
        rfl
      · show 1 + e.size + e'.size ≤ r
        omega
      · show 1 + max e.deep e'.deep ≤ d + 1
        omega
end
end K4
/-! K15: _law_table. -/
namespace K4
open PySem PySem.Spec PyProof.Rows L2
/-- the dict at t renames the words of ws by f -/
def Tab (H : Hp) (t : Addr) (ws : List PySem.Str) (f : PySem.Str → PySem.Str) : Prop := ∃ kvs : List (Key × V), H t = some (.dK kvs) ∧ ∀ u ∈ ws, valV kvs (Sum.inr u) = some (.str (f u))
theorem Tab.mono {H H' : Hp} (s : Same H H') {t : Addr} {ws : List PySem.Str} {f : PySem.Str → PySem.Str} (h : Tab H t ws f) : Tab H' t ws f := let ⟨k, e, q⟩ := h; ⟨k, s _ _ e, q⟩
theorem Tab.get {H : Hp} {t : Addr} {ws : List PySem.Str} {f : PySem.Str → PySem.Str} (h : Tab H t ws f) {u : PySem.Str} (m : u ∈ ws) : DGet H t (.str u) (some (.str (f u))) := by
  obtain ⟨kvs, e, q⟩ := h
  rw [← q u m]
  exact DGet.k (k := Sum.inr u) e
theorem nodup_at {xs : List PySem.Str} {i j : Nat} {z : PySem.Str} (nd : xs.Nodup) (h1 : xs[i]? = some z) (h2 : xs[j]? = some z) : i = j :=
  (List.getElem?_inj (List.getElem?_eq_some_iff.mp h1).1 nd).mp (h1.trans h2.symm)
/-- what the first i words are renamed to -/
def Half (kvs : List (Key × V)) (olds news : List PySem.Str) (i : Nat) : Prop := ∀ j, j < i → ∀ u z, olds[j]? = some u → news[j]? = some z → valV kvs (Sum.inr u) = some (.str z)
theorem Half.put {kvs : List (Key × V)} {olds news : List PySem.Str} {i : Nat} {u z : PySem.Str} (h : Half kvs olds news i) (nd : olds.Nodup) (hu : olds[i]? = some u) (hz : news[i]? = some z) : Half (putK kvs (Sum.inr u) (.str z)) olds news (i + 1) := by
  intro j hj u' z' h1 h2
  rw [valV_put]
  by_cases e : j = i
  · subst e
    rw [hu] at h1
    rw [hz] at h2
    obtain rfl := Option.some.inj h1
    obtain rfl := Option.some.inj h2
    rw [if_pos rfl]
  · have ne : ¬ (Sum.inr u' : Key) = Sum.inr u := fun q => by
      injection q with q
      subst q
      exact e (nodup_at nd h1 hu)
    rw [if_neg ne]
    exact h j (by omega) u' z' h1 h2
theorem half_full {H : Hp} {t : Addr} {kvs : List (Key × V)} {olds news : List PySem.Str} (e : H t = some (.dK kvs)) (h : Half kvs olds news olds.length) (hl : news.length = olds.length) (nd : news.Nodup) :
    ∃ f, Tab H t olds f ∧ InjOn f olds := by
  have at_ : ∀ u ∈ olds, ∃ (i : Nat) (z : PySem.Str), olds[i]? = some u ∧ news[i]? = some z ∧ valV kvs (Sum.inr u) = some (.str z) := fun u hu => by
    obtain ⟨i, hi, e1⟩ := List.getElem_of_mem hu
    have h1 : olds[i]? = some u := by rw [List.getElem?_eq_getElem hi, e1]
    have h2 : news[i]? = some (news[i]'(by omega)) := List.getElem?_eq_getElem (by omega)
    exact ⟨i, _, h1, h2, h i hi u _ h1 h2⟩
  refine ⟨fun u => match valV kvs (Sum.inr u) with | some (.str z) => z | _ => u, ⟨kvs, e, fun u hu => ?_⟩, fun x hx y hy exy => ?_⟩
  · obtain ⟨i, z, _, _, e3⟩ := at_ u hu
    show _ = some (V.str (match valV kvs (Sum.inr u) with | some (.str z) => z | _ => u))
    rw [e3]
  · obtain ⟨i, z, a1, a2, a3⟩ := at_ x hx
    obtain ⟨j, z', b1, b2, b3⟩ := at_ y hy
    simp only [a3, b3] at exy
    subst exy
    have := nodup_at nd a2 b2
    subst this
    rw [a1] at b1
    exact Option.some.inj b1
/-- a part of a tuple of texts -/
theorem sl_tw {K : PySem.W.Frag} {H : Hp} {a : Addr} {xs ys : List V} {lo hi : Option Int} {Q : VK} (h : SqT K H a xs) (e : cutV xs lo hi = ys) (q : ∀ (H' : Hp) (b : Addr), Same H H' → SqT K H' b ys → Q (.ref b) H') :
    rSlA K (.ref a) lo hi H Q := by
  refine ⟨a, xs, rfl, h, fun hw => q H a (Same.refl H) ?_, fun _ p np => q _ p (same_new np _) (by rw [← e]; exact .of upd_same)⟩
  rw [← e]
  unfold cutV
  rw [hw.1, hw.2, List.drop_zero, Nat.sub_zero, List.take_length]
  exact h
section
variable {P : Program} {w : World} {K : PySem.W.Frag} {mg : Str → Option Value} {base : Heap}
theorem scTable : FnScope ["_law_pool_here", "_law_olds", "_law_way", "_law_news", "_law_table_here", "_law_k"] ["_law_pool_here", "_law_olds", "_law_way"] (defScope sTable) := ⟨rfl, rfl, rfl, by decide +kernel, rfl, by decide +kernel, by decide +kernel⟩
def spTable : Sp := fun vs H Q _ => ∃ (p a : Addr) (way : Int) (olds : List PySem.Str), vs = [.ref p, .ref a, .int way] ∧ Tw H olds a ∧ olds.Nodup ∧ 0 < olds.length ∧ olds.length ≤ 4 ∧ PoolR H p ∧
  ∀ (H' : Hp) (t : Addr) (f : PySem.Str → PySem.Str), Kp p H H' → H t = none → Tab H' t olds f → InjOn f olds → Q (.ref t) H'
theorem ok_table {f fN : Addr} {fd fdN : FuncData} (F : L2.Fun K "_law_table" "_law_table" sTable f fd) (B : Blt mg) (GN : FnOk P w K mg base CX0 3 fN fdN ["_law_pool_here", "_law_count"] spNames) (bN : Binds K fdN ["_law_pool_here", "_law_count"] []) (kN : PySem.W.keepIn K (.ref fN) = true) (mN : mg "_law_names" = some (.ref fN)) :
    FnOk P w K mg base CX0 4 f fd ["_law_pool_here", "_law_olds", "_law_way"] spTable := by
  refine F.ok scTable (fun vs H Q E h => ?_) (fun cdv A outer s H vs Q E hr h => ?_)
  · obtain ⟨p, a, way, olds, rfl, _⟩ := h
    rfl
  obtain ⟨p, a, way, olds, rfl, ha, hnd, h0, h4, hp, q⟩ := h
  have nd := scTable.nd
  have hu := hu_of hr
  refine ⟨_, pss_cons (ps_set (i := 3) nd rfl (.inl rfl) (pe_call GN hr rfl mN kN bN .nil pass0 (pa_cons (pv 0) (pa_cons (pe_callB call_len_seq rfl B.len PySem.boot_len (pa_cons (pv 1) pa_nil)) pa_nil))))
    (C8.pss_cut (ps_if (pt_cmpR op_eq (pv 2) pe_int (nomark _))
        (pss_one (ps_set (i := 3) nd rfl (.inl rfl) (pe_op op_cat (pe_callTy call_list_of rfl B.lst (by decide +kernel) (pa_cons (pe_slice sl_tupA (pv 1) (po_some pe_int) po_none) pa_nil))
          (pe_callTy call_list_of rfl B.lst (by decide +kernel) (pa_cons (pe_slice sl_tupA (pv 1) po_none (po_some pe_int)) pa_nil))))) pss_nil)
    (pss_cons (ps_set (i := 4) nd rfl (.inl rfl) pe_dnewK)
    (pss_cons (ps_for PassesOwn.never rfl (pi_range1 rfl B.rng (pa_cons (pe_callB call_len_seq rfl B.len PySem.boot_len (pa_cons (pv 1) pa_nil)) pa_nil)) (pg_name (i := 5) nd rfl (.inl rfl))
      (pss_one (ps_dput hu (pv 4) (pe_ix ix_tup (pv 1) (pv 5) (fun _ _ => rfl)) (pe_ix ix_list (pv 3) (pv 5) (fun _ _ => rfl)) rfl)))
    (pss_one (ps_ret (pv 4)))))), ?_⟩
  -- _law_news
  refine ⟨_, rfl, _, rfl, a, _, rfl, .inr (.inl ha), p, olds.length, (by rw [List.length_map]; rfl), by omega, hp, fun H1 l news k1 nl el hl hnews => ?_⟩
  refine ⟨fun σ H' => ∃ (l : Addr) (news : List PySem.Str), σ = [some (.ref p), some (.ref a), some (.int way), some (.ref l), none, none] ∧ Kp p H H' ∧ H' l = some (.lst (news.map V.str)) ∧ news.length = olds.length ∧ news.Nodup, ?_, ?_⟩
  · refine ⟨_, rfl, rfl, _, rfl, ite2 (fun _ => ?_) (fun _ => ?_)⟩
    · have ha1 : SqT K H1 a (olds.map V.str) := .inl ((k1.tk hp).rd ha)
      refine ⟨_, rfl, 1, rfl, ?_⟩
      unfold tNoPart
      refine sl_tw ha1 (cut_from (k := 1) (by rw [List.length_map]; omega)) fun H2 b s2 hb => ?_
      refine ⟨b, _, rfl, .inr hb, fun l1 nl1 => ?_⟩
      have s3 := s2.trans (same_new nl1 (.lst ((olds.map V.str).drop 1)))
      have e3 : (upd H2 l1 (.lst ((olds.map V.str).drop 1))) l1 = some (.lst ((olds.map V.str).drop 1)) := upd_same
      generalize upd H2 l1 (.lst ((olds.map V.str).drop 1)) = H3 at s3 e3
      have ha3 : SqT K H3 a (olds.map V.str) := .inl (((k1.same s3).tk hp).rd ha)
      refine ⟨_, rfl, 1, rfl, sl_tw ha3 (cut_to (k := 1) (by rw [List.length_map]; omega)) fun H4 c s4 hc => ?_⟩
      refine ⟨c, _, rfl, .inr hc, fun l2 nl2 => ?_⟩
      have s5 := s4.trans (same_new nl2 (.lst ((olds.map V.str).take 1)))
      have e5 : (upd H4 l2 (.lst ((olds.map V.str).take 1))) l2 = some (.lst ((olds.map V.str).take 1)) := upd_same
      generalize upd H4 l2 (.lst ((olds.map V.str).take 1)) = H5 at s5 e5
      refine ⟨l1, l2, _, _, rfl, rfl, s5 _ _ e3, e5, ?_, fun r nr => ?_⟩
      · rw [List.length_drop, List.length_take, List.length_map]
        exact small (by omega)
      refine ⟨r, olds.drop 1 ++ olds.take 1, rfl, (k1.same s3).same (s5.trans (same_new nr _)), ?_, ?_, ?_⟩
      · rw [upd_same, List.map_append, List.map_drop, List.map_take]
      · rw [List.length_append, List.length_drop, List.length_take]
        omega
      · have : (olds.take 1 ++ olds.drop 1).Nodup := by rw [List.take_append_drop]; exact hnd
        exact (List.perm_append_comm.nodup_iff).mp this
    · exact ⟨l, news, rfl, k1, el, hl, hnews⟩
  rintro σ H2 ⟨l, news, rfl, k2, el, hl, hnews⟩
  -- _law_table_here
  refine fun D nD => ?_
  have nDp := k2.pool.nn nD
  have nlp := k2.pool.neL el
  have tk2 := k2.tk hp
  have k3 := KpD.start k2.pool nD (.dK [])
  have e30 : (upd H2 D (.dK [])) D = some (.dK []) := upd_same
  refine ⟨_, rfl, a, _, rfl, .inr (.inl ((k3.kp.tk k2.pool).rd (tk2.rd ha))), (olds.length : Int), (by rw [List.length_map]), by omega, by omega, ?_⟩
  have en : ((olds.length : Int)).toNat = olds.length := by omega
  rw [en]
  refine for_range (lo := 0) (n := olds.length) (fun i σ H' => ∃ (kvs : List (Key × V)) (v : Option V), σ = [some (.ref p), some (.ref a), some (.int way), some (.ref l), some (.ref D), v] ∧ KpD p D H2 H' ∧ H' D = some (.dK kvs) ∧ kvs.length ≤ i ∧ Half kvs olds news i)
    ⟨[], none, rfl, k3, e30, Nat.le_refl _, fun j hj => absurd hj (Nat.not_lt_zero j)⟩ ?_ ?_
  · rintro i σ H3 hi ⟨kvs, v, rfl, k4, e4, hk, hh⟩
    have hu1 : olds[i]? = some olds[i] := List.getElem?_eq_getElem hi
    have hi2 : i < news.length := by omega
    have hu2 : news[i]? = some news[i] := List.getElem?_eq_getElem hi2
    have ei : (0 : Int) + (i : Int) = (i : Int) := by omega
    rw [ei]
    refine ⟨_, rfl, _, rfl, l, _, _, .str news[i], rfl, rfl, .of (k4.kp.keep l _ nlp el), atI_nat (by rw [List.getElem?_map, hu2]; rfl), ?_⟩
    refine ⟨_, rfl, _, rfl, _, rfl, a, _, _, .str olds[i], rfl, rfl, .inl ((k4.kp.tk k2.pool).rd (tk2.rd ha)), atI_nat (by rw [List.getElem?_map, hu1]; rfl), ?_⟩
    refine ⟨D, _, rfl, DPut.k (k := Sum.inr olds[i]) e4 (small1000 (by omega)), _, _, rfl, k4.put k2.pool nD _, upd_same, ?_, hh.put hnd hu1 hu2⟩
    have := length_putK kvs (Sum.inr olds[i] : Key) (V.str news[i])
    omega
  · rintro σ H3 ⟨kvs, v, rfl, k4, e4, hk, hh⟩
    obtain ⟨g, hg, gi⟩ := half_full e4 hh hl hnews
    exact ⟨_, rfl, q H3 D g (k2.trans k4.kp) (k2.free nD) hg gi⟩
end
end K4
/-! K16: _law_as, _law_given_as. -/
namespace K4
open PySem PySem.Spec PyProof.Rows L2
/-- the two tables -/
def TbR (K : PySem.W.Frag) (H : Hp) (T : Addr) (ws : List PySem.Str) (f : PySem.Str → PySem.Str) (ss : List PySem.Str) (h : PySem.Str → PySem.Str) : Prop := ∃ t u, H T = some (.lst [.ref t, .ref u]) ∧ Tab H t ws f ∧ Tab H u ss h
theorem TbR.mono {K : PySem.W.Frag} {H H' : Hp} (s : Same H H') {T : Addr} {ws ss : List PySem.Str} {f h : PySem.Str → PySem.Str} (q : TbR K H T ws f ss h) : TbR K H' T ws f ss h := by
  obtain ⟨t, u, e, a, b⟩ := q
  exact ⟨t, u, s _ _ e, a.mono s, b.mono s⟩
def rTupOf (K : PySem.W.Frag) : List V → Hp → VK → Prop := fun xs H Q => ∃ p ys, xs = [.ref p] ∧ ((SqL K H p ys ∧ ∀ l, H l = none → Q (.ref l) (upd H l (.tup ys))) ∨ (SqT K H p ys ∧ Q (.ref p) H))
theorem row_mem {ws row : List PySem.Str} (h : rowOk ws row = true) : (∀ u ∈ row, u ∈ ws) ∧ row.length = ws.length := by
  obtain ⟨h1, h2⟩ := (Bool.and_eq_true_iff).mp h
  exact ⟨fun u hu => of_decide_eq_true (List.all_eq_true.mp h2 u hu), of_decide_eq_true h1⟩
theorem sq_mem {ws : List PySem.Str} {sq : List (List PySem.Str)} (h : sqOk ws sq = true) : (∀ u ∈ sq, rowOk ws u = true) ∧ sq.length = ws.length := by
  obtain ⟨h1, h2⟩ := (Bool.and_eq_true_iff).mp h
  exact ⟨fun u hu => List.all_eq_true.mp h2 u hu, of_decide_eq_true h1⟩
/-- a row, renamed -/
theorem ren_row {K : PySem.W.Frag} {H : Hp} {ti : TE} {s0 s1 s3 s4 s5 s6 : Option V} {t r : Addr} {ws row : List PySem.Str} {f : PySem.Str → PySem.Str} {Q : VK}
    (hi : ∀ R : VK, R (.ref r) H → ti [s0, s1, some (.ref t), s3, s4, s5, s6] H R) (hT : Tab H t ws f) (hr : Tx H row r) (hm : ∀ u ∈ row, u ∈ ws) (hl : row.length ≤ 1000)
    (q : ∀ (H' : Hp) (c : Addr), Same H H' → Tx H' (row.map f) c → Q (.ref c) H') :
    tCB (rTupOf K) (tCons (tLc (iTup K ti) (gName 5) tYes (tDGet (tVar 2) (tVar 5)) [5]) tNil) [s0, s1, some (.ref t), s3, s4, s5, s6] H Q := by
  refine hi _ ⟨r, rfl, ⟨_, .of hr⟩, fun D nD => ?_⟩
  refine walk_ex (walk_tup (K := K) (a := r) (xs := row.map V.str)) (fun i H' => Same H H' ∧ H' D = some (.lst (((row.map f).take i).map V.str))) ⟨same_new nD _, upd_same⟩ (fun i H' _ k => .of (k.1 _ _ hr)) ?_ ?_
  · rintro i x H1 H1' hi ⟨sm, eD⟩ ⟨rfl, hx⟩
    obtain ⟨z, hz, rfl⟩ := get_map_str hx
    rw [List.length_map] at hi
    have hzm := hm z (List.mem_of_getElem? hz)
    refine ⟨rfl, ?_⟩
    refine ⟨_, rfl, _, rfl, t, _, rfl, (hT.mono sm).get hzm, _, eD, ?_, fun c o e => ?_, ?_⟩
    · rw [List.length_map, List.length_take, List.length_map]
      exact small1000 (by omega)
    · rw [upd_ne (ne_of_none e nD)]
      exact sm c o e
    · have hz2 : (row.map f)[i]? = some (f z) := by rw [List.getElem?_map, hz]; rfl
      rw [upd_same, List.take_add_one, hz2, List.map_append]
      rfl
  · rintro H1 ⟨sm, eD⟩
    rw [List.take_of_length_le (by rw [List.length_map, List.length_map]; exact Nat.le_refl _)] at eD
    exact ⟨D, _, rfl, .inl ⟨.of eD, fun c nc => q _ c (sm.trans (same_new nc _)) upd_same⟩⟩
section
variable {P : Program} {w : World} {K : PySem.W.Frag} {mg : Str → Option Value} {base : Heap}
abbrev nAs : List PySem.Str := ["_law_tables", "_law_expr", "_law_words", "_law_slots", "_law_table_here", "_law_word", "_law_row"]
theorem scAs : FnScope nAs ["_law_tables", "_law_expr"] (defScope sAs) := ⟨rfl, rfl, rfl, by decide +kernel, rfl, by decide +kernel, by decide +kernel⟩
def spAs (K : PySem.W.Frag) (n : Nat) : Sp := fun vs H Q _ => ∃ (T : Addr) (x : V) (ws ss : List PySem.Str) (f h : PySem.Str → PySem.Str) (e : Ex PySem.Str), vs = [.ref T, x] ∧ TbR K H T ws f ss h ∧ ExR H x e ∧ chk ws ss e = true ∧ ws.length ≤ 3 ∧ e.deep ≤ n ∧
  ∀ (H' : Hp) (y : V), Same H H' → ExR H' y (e.ren f h) → Q y H'
theorem as_none {k : Nat} {f : Addr} {fd : FuncData} : FnOk P w K mg base CX0 k f fd ["_law_tables", "_law_expr"] (spAs K 0) := by
  have no : ∀ vs H Q E, ¬ spAs K 0 vs H Q E := fun vs H Q E h => by
    obtain ⟨T, x, ws, ss, f, h, e, _, _, _, _, _, h1, _⟩ := h
    have := e.deep_pos
    omega
  exact ⟨fun vs H Q E h => absurd h (no vs H Q E), fun A outer s H args us vs Q E _ _ _ _ h => absurd h (no vs H Q E)⟩
theorem ok_as {f : Addr} {fd : FuncData} (F : L2.Fun K "_law_as" "_law_as" sAs f fd) (bF : Binds K fd ["_law_tables", "_law_expr"] []) (kF : PySem.W.keepIn K (.ref f) = true) (mF : mg "_law_as" = some (.ref f)) (B : Blt mg) :
    ∀ n : Nat, FnOk P w K mg base CX0 n f fd ["_law_tables", "_law_expr"] (spAs K n)
  | 0 => as_none
  | n + 1 => by
    have ih := ok_as F bF kF mF B n
    refine F.ok scAs (fun vs H Q E h => ?_) (fun cdv A outer s H vs Q E hr h => ?_)
    · obtain ⟨T, x, ws, ss, f, h, e, rfl, _⟩ := h
      rfl
    obtain ⟨T, x, ws, ss, g, h, e, rfl, hT, hx, hc, hl, hd, q⟩ := h
    have hu := hu_of hr
    have nd := scAs.nd
    refine ⟨_, pss_cons (ps_asg (pv 0) (pg_unl rfl (pgs_cons (pg_name (i := 2) nd rfl (.inr rfl)) (pgs_cons (pg_name (i := 3) nd rfl (.inl rfl)) pgs_nil))))
      (pss_cons (ps_if (pt_cmpR op_eq (pe_ix ix_tup (pv 1) pe_int (fun _ _ => rfl)) pe_str (nomark _)) (pss_one (ps_ret (pe_tup (pa_cons pe_str (pa_cons (pe_dget hu (pv 2) (pe_ix ix_tup (pv 1) pe_int (fun _ _ => rfl)) (fun _ _ => rfl)) pa_nil))))) pss_nil)
      (pss_cons (ps_if (pt_cmpR op_eq (pe_ix ix_tup (pv 1) pe_int (fun _ _ => rfl)) pe_str (nomark _)) (pss_one (ps_ret (pe_tup (pa_cons pe_str (pa_cons (pe_dget hu (pv 3) (pe_ix ix_tup (pv 1) pe_int (fun _ _ => rfl)) (fun _ _ => rfl)) pa_nil))))) pss_nil)
      (pss_cons (ps_if (pt_cmpR op_eq (pe_ix ix_tup (pv 1) pe_int (fun _ _ => rfl)) pe_str (nomark _))
        (pss_one (ps_ret (pe_tup (pa_cons pe_str (pa_cons (pe_callTy (r := rTupOf K) call_tuple_of rfl B.tup (by decide +kernel) (pa_cons (pe_lc (own := [("_law_word", 5)]) (g := gName 5) (tt := tYes) (te := tDGet (tVar 2) (tVar 5)) rfl nd (pi_tup (pe_ix ix_tup (pv 1) pe_int (fun _ _ => rfl)))
            (blkOk_by (own := [("_law_word", 5)]) (N := nAs) (sc := defScope sAs) (by decide +kernel))
            (fun _ _ _ _ _ => by exact pg_name (i := 5) nd rfl (.inl rfl)) (fun _ _ _ _ _ => pts_nil)
            (fun _ _ _ _ _ => by exact pe_dget hu (pv 2) (pv 5) (fun _ _ => rfl))) pa_nil))
          (pa_cons (pe_call ih hr rfl mF kF bF .nil pass0 (pa_cons (pv 0) (pa_cons (pe_ix ix_tup (pv 1) pe_int (fun _ _ => rfl)) pa_nil))) pa_nil)))))) pss_nil)
      (pss_cons (ps_set (i := 4) nd rfl (.inl rfl) (pe_callTy (r := rTupOf K) call_tuple_of rfl B.tup (by decide +kernel) (pa_cons (pe_lc (own := [("_law_row", 6)]) (g := gName 6) (tt := tYes)
            (te := tCB (rTupOf K) (tCons (tLc (iTup K (tVar 6)) (gName 5) tYes (tDGet (tVar 2) (tVar 5)) [5]) tNil)) rfl nd (pi_tup (pe_ix ix_tup (pv 1) pe_int (fun _ _ => rfl)))
            (blkOk_by (own := [("_law_row", 6)]) (N := nAs) (sc := defScope sAs) (by decide +kernel))
            (fun _ _ _ _ _ => by exact pg_name (i := 6) nd rfl (.inl rfl)) (fun _ _ _ _ _ => pts_nil)
            (fun _ _ _ _ _ => by exact pe_callTy (r := rTupOf K) call_tuple_of rfl B.tup (by decide +kernel) (pa_cons (pe_lc (own := [("_law_word", 5)]) (g := gName 5) (tt := tYes) (te := tDGet (tVar 2) (tVar 5)) rfl nd (pi_tup (pv 6))
              (blkOk_by (by rfl))
              (fun _ _ _ _ _ => by exact pg_name (i := 5) nd rfl (.inl rfl)) (fun _ _ _ _ _ => pts_nil)
              (fun _ _ _ _ _ => by exact pe_dget hu (pv 2) (pv 5) (fun _ _ => rfl))) pa_nil))) pa_nil)))
      (pss_one (ps_ret (pe_tup (pa_cons pe_str (pa_cons (pv 4) (pa_cons (pe_call ih hr rfl mF kF bF .nil pass0 (pa_cons (pv 0) (pa_cons (pe_ix ix_tup (pv 1) pe_int (fun _ _ => rfl)) pa_nil)))
        (pa_cons (pe_call ih hr rfl mF kF bF .nil pass0 (pa_cons (pv 0) (pa_cons (pe_ix ix_tup (pv 1) pe_int (fun _ _ => rfl)) pa_nil))) pa_nil))))))))))), ?_⟩
    obtain ⟨t, u, eT, ht, hus⟩ := hT
    refine ⟨_, rfl, T, _, rfl, .of eT, rfl, _, _, rfl, _, _, rfl, rfl, ?_⟩
    cases e with
    | word z =>
      obtain ⟨c, rfl, hc1⟩ := hx
      have hz : z ∈ ws := of_decide_eq_true hc
      refine ⟨_, rfl, _, _, _, _, rfl, rfl, .of hc1, atI_nat (j := 0) rfl, rfl, _, rfl, iteT' (by decide +kernel) ?_⟩
      refine ⟨_, rfl, _, rfl, _, _, _, _, rfl, rfl, .of hc1, atI_nat (j := 1) rfl, t, _, rfl, ht.get hz, by show 2 ≤ sizeLine; decide, fun c2 nc2 => ?_⟩
      exact q _ _ (same_new nc2 _) ⟨c2, rfl, upd_same⟩
    | slot z =>
      obtain ⟨c, rfl, hc1⟩ := hx
      have hz : z ∈ ss := of_decide_eq_true hc
      refine ⟨_, rfl, _, _, _, _, rfl, rfl, .of hc1, atI_nat (j := 0) rfl, rfl, _, rfl, iteF' (by decide +kernel) ?_⟩
      refine ⟨_, rfl, _, _, _, _, rfl, rfl, .of hc1, atI_nat (j := 0) rfl, rfl, _, rfl, iteT' (by decide +kernel) ?_⟩
      refine ⟨_, rfl, _, rfl, _, _, _, _, rfl, rfl, .of hc1, atI_nat (j := 1) rfl, u, _, rfl, hus.get hz, by show 2 ≤ sizeLine; decide, fun c2 nc2 => ?_⟩
      exact q _ _ (same_new nc2 _) ⟨c2, rfl, upd_same⟩
    | map row e =>
      obtain ⟨c, r, y, rfl, hc1, hrw, he⟩ := hx
      have hd' : e.deep ≤ n := by unfold Ex.deep at hd; omega
      have hc' : (rowOk ws row && chk ws ss e) = true := hc
      obtain ⟨c1, c2⟩ := (Bool.and_eq_true_iff).mp hc'
      refine ⟨_, rfl, _, _, _, _, rfl, rfl, .of hc1, atI_nat (j := 0) rfl, rfl, _, rfl, iteF' (by decide +kernel) ?_⟩
      refine ⟨_, rfl, _, _, _, _, rfl, rfl, .of hc1, atI_nat (j := 0) rfl, rfl, _, rfl, iteF' (by decide +kernel) ?_⟩
      refine ⟨_, rfl, _, _, _, _, rfl, rfl, .of hc1, atI_nat (j := 0) rfl, rfl, _, rfl, iteT' (by decide +kernel) ?_⟩
      have hm := row_mem c1
      refine ren_row (fun R h => ⟨_, rfl, _, _, _, _, rfl, rfl, .of hc1, atI_nat (j := 1) rfl, h⟩) ht hrw hm.1 (by omega) fun H1 r1 s1 hr1 => ?_
      have hT1 : TbR K H1 T ws g ss h := TbR.mono s1 ⟨t, u, eT, ht, hus⟩
      refine ⟨_, rfl, _, rfl, _, _, _, _, rfl, rfl, .of (s1 _ _ hc1), atI_nat (j := 2) rfl, T, y, ws, ss, g, h, e, rfl, hT1, he.mono (tk_same s1), c2, hl, hd', fun H2 y2 s2 hy2 => ?_⟩
      refine ⟨by show 3 ≤ sizeLine; decide, fun c3 nc3 => ?_⟩
      have s3 := same_new nc3 (.tup [.str "map", .ref r1, y2])
      exact q _ _ (s1.trans (s2.trans s3)) ⟨c3, r1, y2, rfl, upd_same, (hr1.mono (tk_same s2)).mono (tk_same s3), hy2.mono (tk_same s3)⟩
    | pair sq e e3 =>
      obtain ⟨c, r, y, y3, rfl, hc1, hsq, he, he3⟩ := hx
      have hd' : e.deep ≤ n := by unfold Ex.deep at hd; omega
      have hd3 : e3.deep ≤ n := by unfold Ex.deep at hd; omega
      have hc' : (sqOk ws sq && (chk ws ss e && chk ws ss e3)) = true := hc
      obtain ⟨c1, c2⟩ := (Bool.and_eq_true_iff).mp hc'
      obtain ⟨c2, c3⟩ := (Bool.and_eq_true_iff).mp c2
      obtain ⟨hm, hsl⟩ := sq_mem c1
      obtain ⟨rs, hrs, hp⟩ := hsq
      have hpl := paired_length hp
      refine ⟨_, rfl, _, _, _, _, rfl, rfl, .of hc1, atI_nat (j := 0) rfl, rfl, _, rfl, iteF' (by decide +kernel) ?_⟩
      refine ⟨_, rfl, _, _, _, _, rfl, rfl, .of hc1, atI_nat (j := 0) rfl, rfl, _, rfl, iteF' (by decide +kernel) ?_⟩
      refine ⟨_, rfl, _, _, _, _, rfl, rfl, .of hc1, atI_nat (j := 0) rfl, rfl, _, rfl, iteF' (by decide +kernel) ?_⟩
      refine ⟨_, rfl, _, _, _, _, rfl, rfl, .of hc1, atI_nat (j := 1) rfl, r, rfl, ⟨_, .of hrs⟩, fun D nD => ?_⟩
      refine walk_ex (walk_tup (K := K) (a := r) (xs := rs)) (fun i H' => ∃ acc, Same H H' ∧ H' D = some (.lst acc) ∧ Paired (RowV H') acc ((sq.map (List.map g)).take i)) ⟨[], same_new nD _, upd_same, .nil⟩ (fun i H' _ ⟨_, k, _⟩ => .of (k _ _ hrs)) ?_ ?_
      · rintro i x H1 H1' hi ⟨acc, sm, eD, hacc⟩ ⟨rfl, hx⟩
        obtain ⟨row, hrow, b, rfl, hb⟩ := paired_get hp hx
        have hrok := row_mem (hm row (List.mem_of_getElem? hrow))
        refine ⟨rfl, ?_⟩
        refine ren_row (fun R h => ⟨_, rfl, h⟩) (ht.mono sm) (hb.mono (tk_same sm)) hrok.1 (by omega) fun H2 r2 s2 hr2 => ?_
        have eD2 := s2 _ _ eD
        have hal := paired_length hacc
        rw [List.length_take, List.length_map] at hal
        refine ⟨_, eD2, small1000 (by omega), acc ++ [.ref r2], fun c o e => ?_, upd_same, ?_⟩
        · rw [upd_ne (ne_of_none e nD)]
          exact s2 _ _ (sm c o e)
        · have hz2 : (sq.map (List.map g))[i]? = some (row.map g) := by rw [List.getElem?_map, hrow]; rfl
          rw [List.take_add_one, hz2]
          have tk4 : TK H2 (upd H2 D (.lst (acc ++ [.ref r2]))) := tk_lst eD2 _
          exact paired_append (paired_mono (fun v xs ⟨b, e, t⟩ => ⟨b, e, t.mono ((tk_same s2).trans tk4)⟩) hacc) (.cons ⟨r2, rfl, hr2.mono tk4⟩ .nil)
      rintro H1 ⟨acc, sm, eD, hacc⟩
      rw [hpl, List.take_of_length_le (by rw [List.length_map]; exact Nat.le_refl _)] at hacc
      refine ⟨D, acc, rfl, .inl ⟨.of eD, fun c4 nc4 => ?_⟩⟩
      have s2 := same_new nc4 (.tup acc)
      have hsq2 : SqA (upd H1 c4 (.tup acc)) (sq.map (List.map g)) c4 := ⟨acc, upd_same, paired_mono (fun v xs ⟨b, e, t⟩ => ⟨b, e, t.mono (tk_same s2)⟩) hacc⟩
      have sm2 := sm.trans s2
      generalize upd H1 c4 (.tup acc) = H2 at sm2 hsq2
      have hT2 : TbR K H2 T ws g ss h := TbR.mono sm2 ⟨t, u, eT, ht, hus⟩
      refine ⟨_, rfl, _, rfl, _, rfl, _, _, _, _, rfl, rfl, .of (sm2 _ _ hc1), atI_nat (j := 2) rfl, T, y, ws, ss, g, h, e, rfl, hT2, he.mono (tk_same sm2), c2, hl, hd', fun H3 y4 s3 hy4 => ?_⟩
      refine ⟨_, rfl, _, rfl, _, _, _, _, rfl, rfl, .of (s3 _ _ (sm2 _ _ hc1)), atI_nat (j := 3) rfl, T, y3, ws, ss, g, h, e3, rfl, hT2.mono s3, (he3.mono (tk_same sm2)).mono (tk_same s3), c3, hl, hd3, fun H4 y5 s4 hy5 => ?_⟩
      refine ⟨by show 4 ≤ sizeLine; decide, fun c5 nc5 => ?_⟩
      have s5 := same_new nc5 (.tup [.str "pair", .ref c4, y4, y5])
      have s35 := s3.trans (s4.trans s5)
      exact q _ _ (sm2.trans s35) ⟨c5, c4, y4, y5, rfl, upd_same, hsq2.mono (tk_same s35), hy4.mono (tk_same (s4.trans s5)), hy5.mono (tk_same s5)⟩
/-! ### _law_given_as -/
theorem scGivenAs : FnScope ["_law_tables", "_law_given", "_law_pair"] ["_law_tables", "_law_given"] (defScope sGivenAs) := ⟨rfl, rfl, rfl, by decide +kernel, rfl, by decide +kernel, by decide +kernel⟩
def spGivenAs (K : PySem.W.Frag) : Sp := fun vs H Q _ => ∃ (T a : Addr) (ws ss : List PySem.Str) (f h : PySem.Str → PySem.Str) (gs : List (PySem.Str × PySem.Str)), vs = [.ref T, .ref a] ∧ TbR K H T ws f ss h ∧ GvR H gs a ∧ GOk ws ss gs ∧ gs.length ≤ 100 ∧
  ∀ (H' : Hp) (b : Addr), Same H H' → GvR H' (renG f h gs) b → Q (.ref b) H'
theorem ok_givenAs {f : Addr} {fd : FuncData} (F : L2.Fun K "_law_given_as" "_law_given_as" sGivenAs f fd) (B : Blt mg) : FnOk P w K mg base CX0 1 f fd ["_law_tables", "_law_given"] (spGivenAs K) := by
  refine F.ok scGivenAs (fun vs H Q E h => ?_) (fun cdv A outer s H vs Q E hr h => ?_)
  · obtain ⟨T, a, ws, ss, f, h, gs, rfl, _⟩ := h
    rfl
  obtain ⟨T, a, ws, ss, f, h, gs, rfl, hT, hg, hok, hl, q⟩ := h
  have hu := hu_of hr
  have nd := scGivenAs.nd
  refine ⟨_, pss_one (ps_ret (pe_callTy call_tuple_of rfl B.tup (by decide +kernel) (pa_cons (pe_lc (own := [("_law_pair", 2)]) (g := gName 2) (tt := tYes)
      (te := tTup (tCons (tDGet (tOp (rIxL K) (tVar 0) (tC (.int 1))) (tOp (rIxT K) (tVar 2) (tC (.int 0)))) (tCons (tDGet (tOp (rIxL K) (tVar 0) (tC (.int 0))) (tOp (rIxT K) (tVar 2) (tC (.int 1)))) tNil))) rfl nd (pi_tup (pv 1))
      (blkOk_by (own := [("_law_pair", 2)]) (N := ["_law_tables", "_law_given", "_law_pair"]) (sc := defScope sGivenAs) (by decide +kernel))
      (fun _ _ _ _ _ => by exact pg_name (i := 2) nd rfl (.inl rfl)) (fun _ _ _ _ _ => pts_nil)
      (fun _ _ _ _ _ => by exact pe_tup (pa_cons (pe_dget hu (pe_ix ix_list (pv 0) pe_int (fun _ _ => rfl)) (pe_ix ix_tup (pv 2) pe_int (fun _ _ => rfl)) (fun _ _ => rfl)) (pa_cons (pe_dget hu (pe_ix ix_list (pv 0) pe_int (fun _ _ => rfl)) (pe_ix ix_tup (pv 2) pe_int (fun _ _ => rfl)) (fun _ _ => rfl)) pa_nil)))) pa_nil))), ?_⟩
  refine ⟨_, rfl, ?_⟩
  obtain ⟨vs, hvs, hp⟩ := hg
  have hpl := paired_length hp
  refine ⟨a, rfl, ⟨_, .of hvs⟩, fun D nD => ?_⟩
  refine walk_ex (walk_tup (K := K) (a := a) (xs := vs)) (fun i H' => ∃ acc, Same H H' ∧ H' D = some (.lst acc) ∧ Paired (PrV H') acc ((renG f h gs).take i)) ⟨[], same_new nD _, upd_same, .nil⟩ (fun i H' _ ⟨_, k, _⟩ => .of (k _ _ hvs)) ?_ ?_
  · rintro i x H1 H1' hi ⟨acc, sm, eD, hacc⟩ ⟨rfl, hx⟩
    obtain ⟨⟨s1, w1⟩, hpr, b, rfl, hb⟩ := paired_get hp hx
    have hmem := List.mem_of_getElem? hpr
    have hb1 := sm _ _ hb
    obtain ⟨t, u, eT, ht, hus⟩ := hT.mono sm
    refine ⟨rfl, ?_⟩
    refine ⟨_, rfl, T, _, _, _, rfl, rfl, .of eT, atI_nat (j := 1) rfl, _, rfl, b, _, _, _, rfl, rfl, .of hb1, atI_nat (j := 0) rfl, u, _, rfl, hus.get (hok.sl _ hmem), ?_⟩
    refine ⟨_, rfl, T, _, _, _, rfl, rfl, .of eT, atI_nat (j := 0) rfl, _, rfl, b, _, _, _, rfl, rfl, .of hb1, atI_nat (j := 1) rfl, t, _, rfl, ht.get (hok.wd _ hmem), by show 2 ≤ sizeLine; decide, fun c nc => ?_⟩
    have s2 := same_new nc (.tup [.str (h s1), .str (f w1)])
    have eD2 := s2 _ _ eD
    have hal := paired_length hacc
    have hlr : (renG f h gs).length = gs.length := List.length_map _
    rw [List.length_take, hlr] at hal
    refine ⟨_, eD2, small1000 (by omega), acc ++ [.ref c], fun b o e => ?_, upd_same, ?_⟩
    · rw [upd_ne (ne_of_none e nD)]
      exact s2 _ _ (sm b o e)
    · have hz2 : (renG f h gs)[i]? = some (h s1, f w1) := by
        unfold renG
        rw [List.getElem?_map, hpr]
        rfl
      rw [List.take_add_one, hz2]
      have tk4 : TK (upd H1' c (.tup [.str (h s1), .str (f w1)])) (upd (upd H1' c (.tup [.str (h s1), .str (f w1)])) D (.lst (acc ++ [.ref c]))) := tk_lst eD2 _
      exact paired_append (paired_mono (fun v xs ⟨b, e, t⟩ => ⟨b, e, ((tk_same s2).trans tk4).tup t⟩) hacc) (.cons ⟨c, rfl, tk4.tup upd_same⟩ .nil)
  · rintro H1 ⟨acc, sm, eD, hacc⟩
    have hlr : (renG f h gs).length = gs.length := List.length_map _
    rw [List.take_of_length_le (by omega)] at hacc
    refine ⟨D, acc, rfl, .inl ⟨.of eD, fun c nc => ?_⟩⟩
    have s2 := same_new nc (.tup acc)
    exact q _ c (sm.trans s2) ⟨acc, upd_same, paired_mono (fun v xs ⟨b, e, t⟩ => ⟨b, e, s2 _ _ t⟩) hacc⟩
end
end K4
/-! K17: _law_stands, _law_checked. -/
namespace K4
open PySem PySem.Spec PyProof.Rows L2
theorem all_map_id {ws row : List PySem.Str} : ((row.map fun u => decide (u ∈ ws)).all id) = row.all fun u => decide (u ∈ ws) := by
  rw [List.all_map]
  rfl
/-- all([w in words for w in row]) -/
theorem all_row {K : PySem.W.Frag} {H : Hp} {ti : TE} {s1 s2 s3 s4 : Option V} {a r : Addr} {ws row : List PySem.Str} {Q : VK}
    (hi : ∀ R : VK, R (.ref r) H → ti [some (.ref a), s1, s2, s3, s4] H R) (hw : Tw H ws a) (hr : Tx H row r) (hl : row.length ≤ 1000)
    (q : ∀ (H' : Hp), Same H H' → Q (.bl (row.all fun u => decide (u ∈ ws))) H') :
    tCB (rAll K) (tCons (tLc (iTup K ti) (gName 4) tYes (tOp (rIn K false) (tVar 4) (tVar 0)) [4]) tNil) [some (.ref a), s1, s2, s3, s4] H Q := by
  refine hi _ ⟨r, rfl, ⟨_, .of hr⟩, fun D nD => ?_⟩
  refine walk_ex (walk_tup (K := K) (a := r) (xs := row.map V.str)) (fun i H' => Same H H' ∧ H' D = some (.lst (((row.map fun u => decide (u ∈ ws)).take i).map V.bl))) ⟨same_new nD _, upd_same⟩ (fun i H' _ k => .of (k.1 _ _ hr)) ?_ ?_
  · rintro i x H1 H1' hi ⟨sm, eD⟩ ⟨rfl, hx⟩
    obtain ⟨z, hz, rfl⟩ := get_map_str hx
    rw [List.length_map] at hi
    refine ⟨rfl, ?_⟩
    refine ⟨_, rfl, _, rfl, a, _, rfl, .inr (.inl ((tk_same sm).rd hw)), rfl, flat_strs ws, _, eD, ?_, fun c o e => ?_, ?_⟩
    · rw [List.length_map, List.length_take, List.length_map]
      exact small1000 (by omega)
    · rw [upd_ne (ne_of_none e nD)]
      exact sm c o e
    · have hz2 : (row.map fun u => decide (u ∈ ws))[i]? = some (decide (z ∈ ws)) := by rw [List.getElem?_map, hz]; rfl
      rw [upd_same, List.take_add_one, hz2, List.map_append, inV_str]
      rfl
  · rintro H1 ⟨sm, eD⟩
    rw [List.take_of_length_le (by rw [List.length_map, List.length_map]; exact Nat.le_refl _)] at eD
    refine ⟨D, _, rfl, .of eD, ?_⟩
    rw [all_map_id]
    exact q _ sm
section
variable {P : Program} {w : World} {K : PySem.W.Frag} {mg : Str → Option Value} {base : Heap}
abbrev nSt : List PySem.Str := ["_law_words", "_law_slots", "_law_expr", "_law_row", "_law_word"]
abbrev psCk : List PySem.Str := ["_law_words", "_law_slots", "_law_expr"]
theorem scStands : FnScope nSt psCk (defScope sStands) := ⟨rfl, rfl, rfl, by decide +kernel, rfl, by decide +kernel, by decide +kernel⟩
def spStands (n : Nat) : Sp := fun vs H Q _ => ∃ (a b : Addr) (x : V) (ws ss : List PySem.Str) (e : Ex PySem.Str) (m : Nat), vs = [.ref a, .ref b, x] ∧ Tw H ws a ∧ Tw H ss b ∧ ExR H x e ∧ shape m e ∧ m ≤ 3 ∧ e.deep ≤ n ∧
  ∀ H' : Hp, Same H H' → Q (.bl (stands ws ss e)) H'
theorem stands_none {k : Nat} {f : Addr} {fd : FuncData} : FnOk P w K mg base CX0 k f fd psCk (spStands 0) := by
  have no : ∀ vs H Q E, ¬ spStands 0 vs H Q E := fun vs H Q E h => by
    obtain ⟨a, b, x, ws, ss, e, m, _, _, _, _, _, _, h1, _⟩ := h
    have := e.deep_pos
    omega
  exact ⟨fun vs H Q E h => absurd h (no vs H Q E), fun A outer s H args us vs Q E _ _ _ _ h => absurd h (no vs H Q E)⟩
theorem ok_stands {f : Addr} {fd : FuncData} (F : L2.Fun K "_law_stands" "_law_stands" sStands f fd) (bF : Binds K fd psCk []) (kF : PySem.W.keepIn K (.ref f) = true) (mF : mg "_law_stands" = some (.ref f)) (B : Blt mg) :
    ∀ n : Nat, FnOk P w K mg base CX0 n f fd psCk (spStands n)
  | 0 => stands_none
  | n + 1 => by
    have ih := ok_stands F bF kF mF B n
    refine F.ok scStands (fun vs H Q E h => ?_) (fun cdv A outer s H vs Q E hr h => ?_)
    · obtain ⟨a, b, x, ws, ss, e, m, rfl, _⟩ := h
      rfl
    obtain ⟨a, b, x, ws, ss, e, m, rfl, hw, hs, hx, hsh, hm, hd, q⟩ := h
    have nd := scStands.nd
    refine ⟨_, pss_cons (ps_if (pt_cmpR op_eq (pe_ix ix_tup (pv 2) pe_int (fun _ _ => rfl)) pe_str (nomark _)) (pss_one (ps_ret (pe_cmpR op_in_seq (pe_ix ix_tup (pv 2) pe_int (fun _ _ => rfl)) (pv 0) rfl))) pss_nil)
      (pss_cons (ps_if (pt_cmpR op_eq (pe_ix ix_tup (pv 2) pe_int (fun _ _ => rfl)) pe_str (nomark _)) (pss_one (ps_ret (pe_cmpR op_in_seq (pe_ix ix_tup (pv 2) pe_int (fun _ _ => rfl)) (pv 1) rfl))) pss_nil)
      (pss_cons (ps_if (pt_cmpR op_eq (pe_ix ix_tup (pv 2) pe_int (fun _ _ => rfl)) pe_str (nomark _))
        (pss_one (ps_ret (pe_and (pe_callB (r := rAll K) (cr_all rfl) rfl B.all (by decide +kernel) (pa_cons (pe_lc (own := [("_law_word", 4)]) (g := gName 4) (tt := tYes) (te := tOp (rIn K false) (tVar 4) (tVar 0)) rfl nd (pi_tup (pe_ix ix_tup (pv 2) pe_int (fun _ _ => rfl)))
            (blkOk_by (own := [("_law_word", 4)]) (N := nSt) (sc := defScope sStands) (by decide +kernel))
            (fun _ _ _ _ _ => by exact pg_name (i := 4) nd rfl (.inl rfl)) (fun _ _ _ _ _ => pts_nil)
            (fun _ _ _ _ _ => by exact pe_cmpR op_in_seq (pv 4) (pv 0) rfl)) pa_nil))
          (pe_one (pe_call ih hr rfl mF kF bF .nil pass0 (pa_cons (pv 0) (pa_cons (pv 1) (pa_cons (pe_ix ix_tup (pv 2) pe_int (fun _ _ => rfl)) pa_nil)))))))) pss_nil)
      (pss_cons (ps_for PassesOwn.never rfl (pi_tup (pe_ix ix_tup (pv 2) pe_int (fun _ _ => rfl))) (pg_name (i := 3) nd rfl (.inl rfl))
        (pss_one (ps_if (pt_not (pt_val (pe_callB (r := rAll K) (cr_all rfl) rfl B.all (by decide +kernel) (pa_cons (pe_lc (own := [("_law_word", 4)]) (g := gName 4) (tt := tYes) (te := tOp (rIn K false) (tVar 4) (tVar 0)) rfl nd (pi_tup (pv 3))
            (blkOk_by (own := [("_law_word", 4)]) (N := nSt) (sc := defScope sStands) (by decide +kernel))
            (fun _ _ _ _ _ => by exact pg_name (i := 4) nd rfl (.inl rfl)) (fun _ _ _ _ _ => pts_nil)
            (fun _ _ _ _ _ => by exact pe_cmpR op_in_seq (pv 4) (pv 0) rfl)) pa_nil)))) (pss_one (ps_ret pe_bl)) pss_nil)))
      (pss_one (ps_ret (pe_and (pe_call ih hr rfl mF kF bF .nil pass0 (pa_cons (pv 0) (pa_cons (pv 1) (pa_cons (pe_ix ix_tup (pv 2) pe_int (fun _ _ => rfl)) pa_nil))))
          (pe_one (pe_call ih hr rfl mF kF bF .nil pass0 (pa_cons (pv 0) (pa_cons (pv 1) (pa_cons (pe_ix ix_tup (pv 2) pe_int (fun _ _ => rfl)) pa_nil))))))))))), ?_⟩
    cases e with
    | word z =>
      obtain ⟨c, rfl, hc1⟩ := hx
      refine ⟨_, rfl, _, _, _, _, rfl, rfl, .of hc1, atI_nat (j := 0) rfl, rfl, _, rfl, iteT' (by decide +kernel) ?_⟩
      refine ⟨_, rfl, _, _, _, _, rfl, rfl, .of hc1, atI_nat (j := 1) rfl, _, rfl, a, _, rfl, .inr (.inl hw), rfl, flat_strs ws, ?_⟩
      rw [inV_str]
      exact q H (Same.refl H)
    | slot z =>
      obtain ⟨c, rfl, hc1⟩ := hx
      refine ⟨_, rfl, _, _, _, _, rfl, rfl, .of hc1, atI_nat (j := 0) rfl, rfl, _, rfl, iteF' (by decide +kernel) ?_⟩
      refine ⟨_, rfl, _, _, _, _, rfl, rfl, .of hc1, atI_nat (j := 0) rfl, rfl, _, rfl, iteT' (by decide +kernel) ?_⟩
      refine ⟨_, rfl, _, _, _, _, rfl, rfl, .of hc1, atI_nat (j := 1) rfl, _, rfl, b, _, rfl, .inr (.inl hs), rfl, flat_strs ss, ?_⟩
      rw [inV_str]
      exact q H (Same.refl H)
    | map row e =>
      obtain ⟨c, r, y, rfl, hc1, hrw, he⟩ := hx
      obtain ⟨hl1, hsh1⟩ := hsh
      have hd' : e.deep ≤ n := by unfold Ex.deep at hd; omega
      refine ⟨_, rfl, _, _, _, _, rfl, rfl, .of hc1, atI_nat (j := 0) rfl, rfl, _, rfl, iteF' (by decide +kernel) ?_⟩
      refine ⟨_, rfl, _, _, _, _, rfl, rfl, .of hc1, atI_nat (j := 0) rfl, rfl, _, rfl, iteF' (by decide +kernel) ?_⟩
      refine ⟨_, rfl, _, _, _, _, rfl, rfl, .of hc1, atI_nat (j := 0) rfl, rfl, _, rfl, iteT' (by decide +kernel) ?_⟩
      refine all_row (fun R h => ⟨_, rfl, _, _, _, _, rfl, rfl, .of hc1, atI_nat (j := 1) rfl, h⟩) hw hrw (by omega) fun H1 s1 => ?_
      have q' : ∀ H' : Hp, Same H H' → Q (.bl ((row.all fun u => decide (u ∈ ws)) && stands ws ss e)) H' := q
      refine ⟨_, rfl, ite2 (fun c => ?_) (fun c => ?_)⟩
      · refine ⟨_, rfl, _, rfl, _, rfl, _, _, _, _, rfl, rfl, .of (s1 _ _ hc1), atI_nat (j := 2) rfl, a, b, y, ws, ss, e, m, rfl, (tk_same s1).rd hw, (tk_same s1).rd hs, he.mono (tk_same s1), hsh1, hm, hd', fun H2 s2 => ?_⟩
        have z := q' H2 (s1.trans s2)
        rw [c, Bool.true_and] at z
        exact z
      · have z := q' H1 s1
        rw [Bool.eq_false_iff.mpr c, Bool.false_and] at z
        exact z
    | pair sq e e3 =>
      obtain ⟨c, r, y, y3, rfl, hc1, hsq, he, he3⟩ := hx
      obtain ⟨hl1, hl2, hsh1, hsh2⟩ := hsh
      have hd' : e.deep ≤ n := by unfold Ex.deep at hd; omega
      have hd3 : e3.deep ≤ n := by unfold Ex.deep at hd; omega
      obtain ⟨rs, hrs, hp⟩ := hsq
      have hpl := paired_length hp
      have q' : ∀ H' : Hp, Same H H' → Q (.bl ((sq.all fun r => r.all fun u => decide (u ∈ ws)) && (stands ws ss e && stands ws ss e3))) H' := q
      refine ⟨_, rfl, _, _, _, _, rfl, rfl, .of hc1, atI_nat (j := 0) rfl, rfl, _, rfl, iteF' (by decide +kernel) ?_⟩
      refine ⟨_, rfl, _, _, _, _, rfl, rfl, .of hc1, atI_nat (j := 0) rfl, rfl, _, rfl, iteF' (by decide +kernel) ?_⟩
      refine ⟨_, rfl, _, _, _, _, rfl, rfl, .of hc1, atI_nat (j := 0) rfl, rfl, _, rfl, iteF' (by decide +kernel) ?_⟩
      refine ⟨_, rfl, _, _, _, _, rfl, rfl, .of hc1, atI_nat (j := 1) rfl, r, rfl, ⟨_, .of hrs⟩, for_tup (K := K) (a := r) (xs := rs) (fun i σ H' => ∃ (v : Option V), σ = [some (.ref a), some (.ref b), some (.ref c), v, none] ∧ Same H H' ∧ ((sq.take i).all fun r => r.all fun u => decide (u ∈ ws)) = true)
        ⟨none, rfl, Same.refl H, rfl⟩ (fun i σ H' _ ⟨_, _, sm, _⟩ => .of (sm _ _ hrs)) ?_ ?_⟩
      · rintro i x σ H1 hi ⟨v, rfl, sm, hall⟩
        obtain ⟨row, hrow, rb, rfl, hb⟩ := paired_get hp hi
        have hrl := hl2 row (List.mem_of_getElem? hrow)
        refine all_row (fun R h => ⟨_, rfl, h⟩) ((tk_same sm).rd hw) (hb.mono (tk_same sm)) (by omega) fun H2 s2 => ?_
        refine ⟨_, rfl, ?_⟩
        have step : (sq.take (i + 1)).all (fun r => r.all fun u => decide (u ∈ ws)) = ((row.all fun u => decide (u ∈ ws))) := by
          rw [List.take_add_one, hrow, List.all_append, hall, Bool.true_and]
          show ((row.all fun u => decide (u ∈ ws)) && true) = _
          rw [Bool.and_true]
        by_cases c2 : (row.all fun u => decide (u ∈ ws)) = true
        · rw [c2]
          exact ⟨_, rfl, sm.trans s2, by rw [step]; exact c2⟩
        · have c3 := Bool.eq_false_iff.mpr c2
          rw [c3]
          have z := q' H2 (sm.trans s2)
          have zz : (sq.all fun r => r.all fun u => decide (u ∈ ws)) = false := by
            rw [List.all_eq_false]
            exact ⟨row, List.mem_of_getElem? hrow, by rw [c3]; exact Bool.false_ne_true⟩
          rw [zz, Bool.false_and] at z
          exact z
      · rintro σ H1 ⟨v, rfl, sm, hall⟩
        rw [hpl, List.take_length] at hall
        rw [hall] at q'
        simp only [Bool.true_and] at q'
        refine ⟨_, rfl, _, rfl, _, rfl, _, _, _, _, rfl, rfl, .of (sm _ _ hc1), atI_nat (j := 2) rfl, a, b, y, ws, ss, e, m, rfl, (tk_same sm).rd hw, (tk_same sm).rd hs, he.mono (tk_same sm), hsh1, hm, hd', fun H2 s2 => ?_⟩
        have sm2 := sm.trans s2
        refine ⟨_, rfl, ite2 (fun c3 => ?_) (fun c3 => ?_)⟩
        · refine ⟨_, rfl, _, rfl, _, rfl, _, _, _, _, rfl, rfl, .of (sm2 _ _ hc1), atI_nat (j := 3) rfl, a, b, y3, ws, ss, e3, m, rfl, (tk_same sm2).rd hw, (tk_same sm2).rd hs, he3.mono (tk_same sm2), hsh2, hm, hd3, fun H3 s3 => ?_⟩
          have z := q' H3 (sm2.trans s3)
          rw [c3, Bool.true_and] at z
          exact z
        · have z := q' H2 sm2
          rw [Bool.eq_false_iff.mpr c3, Bool.false_and] at z
          exact z
/-! ### _law_checked -/
variable {C fI cc cda : Addr}
theorem scChecked : FnScope ["_law_words", "_law_slots", "_law_expr", "_law_told", "e"] psCk (defScope sChecked) := ⟨rfl, rfl, rfl, by decide +kernel, rfl, by decide +kernel, by decide +kernel⟩
def spChecked : Sp := fun vs H Q _ => ∃ (a b : Addr) (x : V) (ws ss : List PySem.Str) (e : Ex PySem.Str), vs = [.ref a, .ref b, x] ∧ Tw H ws a ∧ Tw H ss b ∧ ExR H x e ∧ e.size ≤ 12 ∧ e.deep ≤ 6 ∧
  ∀ H' : Hp, Same H H' → Q (.bl (chk ws ss e)) H'
theorem ok_checked {f fC : Addr} {fd fdC : FuncData} (F : L2.Fun K "_law_checked" "_law_checked" sChecked f fd) (B : Blt mg) (T : ChkTxt P K mg C fI cc cda) (te : PySem.W.exmOne K (.ref C) (.ref C) = some true)
    (GC : FnOk P w K mg base (L2.CX P w) 4 fC fdC ["words", "slots", "value"] (spCheck C)) (bC : Binds K fdC ["words", "slots", "value"] []) (kC : PySem.W.keepIn K (.ref fC) = true) (mC : mg "check_expr" = some (.ref fC)) :
    FnOk P w K mg base CX0 5 f fd psCk spChecked := by
  refine F.ok scChecked (fun vs H Q E h => ?_) (fun cdv A outer s H vs Q E hr h => ?_)
  · obtain ⟨a, b, x, ws, ss, e, rfl, _⟩ := h
    rfl
  obtain ⟨a, b, x, ws, ss, e, rfl, hw, hs, hx, hsz, hd, q⟩ := h
  have nd := scChecked.nd
  refine ⟨_, pss_cons (ps_try_as (i := 4) (tb := fun W => tAsg (tCallS (spCheck C) (WE W) (tCons (tVar 0) (tCons (tVar 1) (tCons (tVar 2) tNil)))) (gName 3)) (ts := fun _ _ _ => tRet (tC (.bl false))) (Wout := fun _ _ _ _ => False) rfl rfl nd rfl rfl ⟨rfl, by decide, .inl T.inv.gC⟩ takes0
        (fun W pn xe tk _ => pss_one (ps_set (i := 3) nd rfl (.inl rfl) (by exact (pe_callS GC hr rfl mC kC bC (fun σ => passAt tk σ) (by exact (pa_cons (pv 0) (pa_cons (pv 1) (pa_cons (pv 2) pa_nil))))))))
        (fun a oe cls d pn hz hf => pss_one (ps_ret pe_bl)))
      (pss_one (ps_ret (pe_cmpR op_isN (pv 3) pe_non (nomark _)))), ?_⟩
  refine ⟨_, rfl, _, rfl, _, rfl, a, b, x, ws, ss, e, rfl, hw, hs, hx, hsz, hd, fun hc H1 s1 => ?_, fun hc H1 d s1 => ?_⟩
  · rw [hc] at q
    exact ⟨_, rfl, rfl, q H1 s1⟩
  · rw [hc] at q
    exact ⟨true, te, fun _ a na => q H1 s1, fun z => absurd z (by decide)⟩
end
end K4
/-! K18: _law_same. -/
namespace K4
open PySem PySem.Spec PyProof.Rows L2
/-- alike to the depth n: None, a truth, a text, or tuples of such -/
def SV (H : Hp) : Nat → V → V → Prop
  | 0, _, _ => False
  | n + 1, x, y => (x = .non ∧ y = .non) ∨ (∃ c : Bool, x = .bl c ∧ y = .bl c) ∨ (∃ s : PySem.Str, x = .str s ∧ y = .str s) ∨
    ∃ (p q : Addr) (xs ys : List V), x = .ref p ∧ y = .ref q ∧ H p = some (.tup xs) ∧ H q = some (.tup ys) ∧ xs.length ≤ 100 ∧ Paired (SV H n) xs ys
theorem SV.mono {H H' : Hp} (k : TK H H') : ∀ {n : Nat} {x y : V}, SV H n x y → SV H' n x y
  | 0, _, _, h => h
  | n + 1, _, _, h => by
    rcases h with h | h | h | ⟨p, q, xs, ys, e1, e2, h1, h2, hl, hp⟩
    · exact .inl h
    · exact .inr (.inl h)
    · exact .inr (.inr (.inl h))
    · exact .inr (.inr (.inr ⟨p, q, xs, ys, e1, e2, k.tup h1, k.tup h2, hl, paired_mono (fun _ _ q => SV.mono k q) hp⟩))
theorem walk_zipT {K : PySem.W.Frag} {a b : Addr} {xs ys : List V} (hl : xs.length = ys.length) : Walk (RZ.ItzT K a b) xs.length (fun H => SqT K H a xs ∧ SqT K H b ys) (YPair (fun i => xs[i]?) (fun i => ys[i]?)) := by
  refine ⟨fun i _ hi q => ⟨xs, ys, xs[i], ys[i]'(by omega), q.1, q.2, by simp [hi], by simp [show i < ys.length by omega]⟩, fun _ q => ⟨xs, ys, q.1, q.2, .inl (Nat.le_refl _)⟩, fun i H v H' _ q y => ?_⟩
  obtain ⟨T, x, z, h1, h2, h3, h4, h5⟩ := y
  exact ⟨T, x, z, h1, h2, h3, h4 xs q.1, h5 ys q.2⟩
section
variable {P : Program} {w : World} {K : PySem.W.Frag} {mg : Str → Option Value} {base : Heap}
abbrev nSm : List PySem.Str := ["_law_a", "_law_b", "_law_x", "_law_y"]
abbrev psSm : List PySem.Str := ["_law_a", "_law_b"]
theorem scSame : FnScope nSm psSm (defScope sSame) := ⟨rfl, rfl, rfl, by decide +kernel, rfl, by decide +kernel, by decide +kernel⟩
def spSame (n : Nat) : Sp := fun vs H Q _ => ∃ (x y : V), vs = [x, y] ∧ SV H n x y ∧ ∀ H' : Hp, Same H H' → Q (.bl true) H'
theorem same_none {k : Nat} {f : Addr} {fd : FuncData} : FnOk P w K mg base CX0 k f fd psSm (spSame 0) := by
  have no : ∀ vs H Q E, ¬ spSame 0 vs H Q E := fun vs H Q E h => by
    obtain ⟨x, y, _, h1, _⟩ := h
    exact h1
  exact ⟨fun vs H Q E h => absurd h (no vs H Q E), fun A outer s H args us vs Q E _ _ _ _ h => absurd h (no vs H Q E)⟩
theorem ok_same {f : Addr} {fd : FuncData} (F : L2.Fun K "_law_same" "_law_same" sSame f fd) (bF : Binds K fd psSm []) (kF : PySem.W.keepIn K (.ref f) = true) (mF : mg "_law_same" = some (.ref f)) (B : Blt mg) :
    ∀ n : Nat, FnOk P w K mg base CX0 n f fd psSm (spSame n)
  | 0 => same_none
  | n + 1 => by
    have ih := ok_same F bF kF mF B n
    refine F.ok scSame (fun vs H Q E h => ?_) (fun cdv A outer s H vs Q E hr h => ?_)
    · obtain ⟨x, y, rfl, _⟩ := h
      rfl
    obtain ⟨x, y, rfl, hxy, q⟩ := h
    have nd := scSame.nd
    refine ⟨_, pss_cons (ps_if (pt_val (pe_callB call_isi rfl B.isi (by decide +kernel) (pa_cons (pv 1) (pa_cons (pe_bltn (v := .ty "tuple") rfl B.tup (by decide +kernel) rfl) pa_nil))))
        (pss_cons (ps_if (PW.pt (pw_or (pt_not (pt_val (pe_callB call_isi rfl B.isi (by decide +kernel) (pa_cons (pv 0) (pa_cons (pe_bltn (v := .ty "tuple") rfl B.tup (by decide +kernel) rfl) pa_nil)))))
            (pw_or1 (pt_cmpR op_ne (pe_callB call_len_seq rfl B.len PySem.boot_len (pa_cons (pv 0) pa_nil)) (pe_callB call_len_seq rfl B.len PySem.boot_len (pa_cons (pv 1) pa_nil)) (nomark _))))) (pss_one (ps_ret pe_bl)) pss_nil)
        (pss_one (ps_ret (pe_callB (r := rAll K) (cr_all rfl) rfl B.all (by decide +kernel) (pa_cons (pe_lc (own := [("_law_x", 2), ("_law_y", 3)]) (g := gTup K 2 (gCons (gName 2) (gCons (gName 3) gNil))) (tt := tYes) (te := tCall (spSame n) [] E0 (tCons (tVar 2) (tCons (tVar 3) tNil))) rfl nd
          (RZ.pi_zipA rfl B.zip (pa_cons (pv 0) (pa_cons (pv 1) pa_nil))) (blkOk_by (own := [("_law_x", 2), ("_law_y", 3)]) (N := nSm) (sc := defScope sSame) (by decide +kernel))
          (fun _ _ _ _ _ => by exact pg_tup rfl (pgs_cons (pg_name (i := 2) nd rfl (.inl rfl)) (pgs_cons (pg_name (i := 3) nd rfl (.inl rfl)) pgs_nil))) (fun _ _ _ _ _ => pts_nil)
          (fun _ _ _ _ _ => by exact pe_call ih hr rfl mF kF bF .nil pass0 (pa_cons (pv 2) (pa_cons (pv 3) pa_nil)))) pa_nil))))) pss_nil)
      (pss_cons (ps_if (pt_val (pe_callB call_isi rfl B.isi (by decide +kernel) (pa_cons (pv 1) (pa_cons (pe_bltn (v := .ty "list") rfl B.lst (by decide +kernel) rfl) pa_nil)))) pss_never pss_nil)
      (pss_cons (ps_if (pt_cmpR op_isN (pv 1) pe_non (nomark _)) (pss_one (ps_ret (pe_cmpR op_isN (pv 0) pe_non (nomark _)))) pss_nil)
      (pss_cons (ps_if (pt_val (pe_callB call_isi rfl B.isi (by decide +kernel) (pa_cons (pv 1) (pa_cons (pe_bltn (v := .ty "bool") rfl B.bool (by decide +kernel) rfl) pa_nil))))
        (pss_one (ps_ret (pe_and (pe_callB call_isi rfl B.isi (by decide +kernel) (pa_cons (pv 0) (pa_cons (pe_bltn (v := .ty "bool") rfl B.bool (by decide +kernel) rfl) pa_nil))) (pe_one (pe_cmpR op_eq (pv 0) (pv 1) (nomark _)))))) pss_nil)
      (pss_cons (ps_if (pt_val (pe_callB call_isi rfl B.isi (by decide +kernel) (pa_cons (pv 1) (pa_cons (pe_bltn (v := .ty "int") rfl B.int (by decide +kernel) rfl) pa_nil)))) pss_never pss_nil)
      (pss_one (ps_ret (pe_and (pe_callB call_isi rfl B.isi (by decide +kernel) (pa_cons (pv 0) (pa_cons (pe_bltn (v := .ty "str") rfl B.str (by decide +kernel) rfl) pa_nil))) (pe_one (pe_cmpR op_eq (pv 0) (pv 1) (nomark _)))))))))), ?_⟩
    rcases hxy with ⟨rfl, rfl⟩ | ⟨c, rfl, rfl⟩ | ⟨z, rfl, rfl⟩ | ⟨p, r, xs, ys, rfl, rfl, h1, h2, hl, hp⟩
    · refine ⟨_, rfl, _, _, _, _, false, rfl, .ty _, .base .non, kit_ty (by decide +kernel), _, rfl, iteF' rfl ?_⟩
      refine ⟨_, rfl, _, _, _, _, false, rfl, .ty _, .base .non, kit_ty (by decide +kernel), _, rfl, iteF' rfl ?_⟩
      refine ⟨_, rfl, rfl, _, rfl, iteT' (by rfl) ?_⟩
      exact ⟨_, rfl, rfl, q H (Same.refl H)⟩
    · refine ⟨_, rfl, _, _, _, _, false, rfl, .ty _, .base (.bl c), kit_ty (by decide +kernel), _, rfl, iteF' rfl ?_⟩
      refine ⟨_, rfl, _, _, _, _, false, rfl, .ty _, .base (.bl c), kit_ty (by decide +kernel), _, rfl, iteF' rfl ?_⟩
      refine ⟨_, rfl, rfl, _, rfl, iteF' (by rfl) ?_⟩
      refine ⟨_, rfl, _, _, _, _, true, rfl, .ty _, .base (.bl c), kit_ty (by decide +kernel), _, rfl, iteT' rfl ?_⟩
      refine ⟨_, rfl, _, _, _, _, true, rfl, .ty _, .base (.bl c), kit_ty (by decide +kernel), _, rfl, iteT' rfl ?_⟩
      refine ⟨_, rfl, _, rfl, rfl, ?_⟩
      have e : decide (V.bl c = V.bl c) = true := decide_eq_true rfl
      rw [e]
      exact q H (Same.refl H)
    · refine ⟨_, rfl, _, _, _, _, false, rfl, .ty _, .base (.str z), kit_ty (by decide +kernel), _, rfl, iteF' rfl ?_⟩
      refine ⟨_, rfl, _, _, _, _, false, rfl, .ty _, .base (.str z), kit_ty (by decide +kernel), _, rfl, iteF' rfl ?_⟩
      refine ⟨_, rfl, rfl, _, rfl, iteF' (by rfl) ?_⟩
      refine ⟨_, rfl, _, _, _, _, false, rfl, .ty _, .base (.str z), kit_ty (by decide +kernel), _, rfl, iteF' rfl ?_⟩
      refine ⟨_, rfl, _, _, _, _, false, rfl, .ty _, .base (.str z), kit_ty (by decide +kernel), _, rfl, iteF' rfl ?_⟩
      refine ⟨_, rfl, _, _, _, _, true, rfl, .ty _, .base (.str z), kit_ty (by decide +kernel), _, rfl, iteT' rfl ?_⟩
      refine ⟨_, rfl, _, rfl, rfl, ?_⟩
      have e : decide (V.str z = V.str z) = true := decide_eq_true rfl
      rw [e]
      exact q H (Same.refl H)
    · have hpl := paired_length hp
      refine ⟨_, rfl, _, _, _, _, true, rfl, .ty _, .base (.tup h2), kit_ty (by decide +kernel), _, rfl, iteT' rfl ?_⟩
      refine ⟨_, rfl, _, _, _, _, true, rfl, .ty _, .base (.tup h1), kit_ty (by decide +kernel), _, rfl, iteF' rfl ?_⟩
      refine ⟨_, rfl, _, _, rfl, .inr (.of h1), _, rfl, _, _, rfl, .inr (.of h2), rfl, _, rfl, iteF' ?_ ?_⟩
      · rw [hpl, decide_eq_true rfl]
        rfl
      refine ⟨_, rfl, _, rfl, p, r, xs, ys, rfl, .inr ⟨.of h1, .of h2, fun D nD => ?_⟩⟩
      refine walk_ex (walk_zipT (K := K) (a := p) (b := r) hpl) (fun i H' => Same H H' ∧ H' D = some (.lst ((List.replicate i true).map V.bl))) ⟨same_new nD _, upd_same⟩ (fun i H' _ k => ⟨.of (k.1 _ _ h1), .of (k.1 _ _ h2)⟩) ?_ ?_
      · rintro i v H1 H1' hi ⟨sm, eD⟩ ⟨T, xi, yi, rfl, nT, rfl, hxi, hyi⟩
        obtain ⟨yi', hy', hsv⟩ := paired_get hp hxi
        have : yi' = yi := Option.some.inj (hy'.symm.trans hyi)
        subst this
        have k2 : Same H1 (upd H1 T (.tup [xi, yi'])) := same_new nT _
        have eT : (upd H1 T (.tup [xi, yi'])) T = some (.tup [xi, yi']) := upd_same
        have sm3 := sm.trans k2
        have eD3 := k2 _ _ eD
        generalize upd H1 T (.tup [xi, yi']) = H3 at k2 sm3 eD3 eT
        refine ⟨T, _, rfl, .of eT, rfl, _, _, rfl, _, _, rfl, rfl, rfl, ?_⟩
        refine ⟨_, rfl, _, rfl, xi, yi', rfl, hsv.mono (tk_same sm3), fun H4 s4 => ?_⟩
        refine ⟨_, s4 _ _ eD3, ?_, fun c o e => ?_, ?_⟩
        · rw [List.length_map, List.length_replicate]
          exact small1000 (by omega)
        · rw [upd_ne (ne_of_none e nD)]
          exact s4 _ _ (sm3 _ _ e)
        · rw [upd_same, List.replicate_succ', List.map_append]
          rfl
      · rintro H1 ⟨sm, eD⟩
        refine ⟨D, _, rfl, .of eD, ?_⟩
        have e : (List.replicate xs.length true).all id = true := by
          rw [List.all_eq_true]
          exact fun b hb => List.eq_of_mem_replicate hb
        rw [e]
        exact q _ sm
end
end K4
/-! K19: what law needs. -/
namespace K4
open PySem PySem.Spec PyProof.Rows L2
/-- [table[z] for z in zs] -/
theorem ren_comp {K : PySem.W.Frag} {H : Hp} {σ : L2.St} {v : Nat} {k : Int} {zs ws : List PySem.Str} {f : PySem.Str → PySem.Str} {Tb t : Addr} {L : List V} {ti : TE} {r : List V → Hp → VK → Prop} {Q : VK}
    (h7 : ∀ x, ((σ.set v none).set v (some x))[7]? = some (some (.ref Tb))) (hv : v < σ.length)
    (hi : ∀ R : VK, (∀ H1 a, Same H H1 → Tw H1 zs a → R (.ref a) H1) → ti σ H R)
    (eT : H Tb = some (.lst L)) (eL : atI L k = some (.ref t)) (ht : Tab H t ws f) (hm : ∀ u ∈ zs, u ∈ ws) (hl : zs.length ≤ 1000)
    (q : ∀ H' D, Same H H' → H' D = some (.lst ((zs.map f).map V.str)) → r [.ref D] H' Q) :
    tCB r (tCons (tLc (iTup K ti) (gName v) tYes (tDGet (tOp (rIxL K) (tVar 7) (tC (.int k))) (tVar v)) [v]) tNil) σ H Q := by
  refine hi _ fun H1 a s1 ha => ⟨a, rfl, ⟨_, .inl ha⟩, fun D nD => ?_⟩
  refine walk_ex (walk_tup (K := K) (a := a) (xs := zs.map V.str)) (fun i H' => Same H1 H' ∧ H' D = some (.lst (((zs.map f).take i).map V.str))) ⟨same_new nD _, upd_same⟩ (fun i H' _ k => .inl ((tk_same k.1).rd ha)) ?_ ?_
  · rintro i x H2 H2' hi2 ⟨sm, eD⟩ ⟨rfl, hx⟩
    obtain ⟨z, hz, rfl⟩ := get_map_str hx
    rw [List.length_map] at hi2
    have sm2 := s1.trans sm
    refine ⟨?_, ?_⟩
    · show ((σ.set v none).set v (some (V.str z))).set v none = σ.set v none
      rw [List.set_set, List.set_set]
    · have hself : ((σ.set v none).set v (some (V.str z)))[v]? = some (some (V.str z)) := by
        rw [List.getElem?_set_self]
        rw [List.length_set]
        exact hv
      refine ⟨_, h7 _, Tb, L, k, .ref t, rfl, rfl, .of (sm2 _ _ eT), eL, _, hself, t, _, rfl, (ht.mono sm2).get (hm z (List.mem_of_getElem? hz)), _, eD, ?_, fun c o e => ?_, ?_⟩
      · rw [List.length_map, List.length_take, List.length_map]
        exact small1000 (by omega)
      · rw [upd_ne (ne_of_none e nD)]
        exact sm c o e
      · have hz2 : (zs.map f)[i]? = some (f z) := by rw [List.getElem?_map, hz]; rfl
        rw [upd_same, List.take_add_one, hz2, List.map_append]
        rfl
  · rintro H2 ⟨sm, eD⟩
    rw [List.take_of_length_le (by rw [List.length_map, List.length_map]; exact Nat.le_refl _)] at eD
    exact q H2 D (s1.trans sm) eD
/-- the tables outlive the pool's changes -/
theorem TbR.kp {K : PySem.W.Frag} {H H' : Hp} {p : Addr} (hp : PoolR H p) (k : Kp p H H') {T : Addr} {ws ss : List PySem.Str} {f h : PySem.Str → PySem.Str} (q : TbR K H T ws f ss h) : TbR K H' T ws f ss h := by
  obtain ⟨t, u, e, ⟨kt, et, qt⟩, ⟨ku, eu, qu⟩⟩ := q
  obtain ⟨g, s, ns, ms, d, c, e1, _⟩ := id hp
  have nT : T ≠ p := ne_of e e1 (by
    intro z
    injection z with z
    injection z with z1 z
    injection z with z1 z
    cases z)
  have nt : t ≠ p := ne_of et e1 (by intro z; cases z)
  have nu : u ≠ p := ne_of eu e1 (by intro z; cases z)
  exact ⟨t, u, k.keep _ _ nT e, ⟨kt, k.keep _ _ nt et, qt⟩, ⟨ku, k.keep _ _ nu eu, qu⟩⟩
theorem Tab.kp {H H' : Hp} {p : Addr} (hp : PoolR H p) (k : Kp p H H') {t : Addr} {ws : List PySem.Str} {f : PySem.Str → PySem.Str} (q : Tab H t ws f) : Tab H' t ws f := by
  obtain ⟨kt, et, qt⟩ := q
  obtain ⟨g, s, ns, ms, d, c, e1, _⟩ := id hp
  exact ⟨kt, k.keep _ _ (ne_of et e1 (by intro z; cases z)) et, qt⟩
theorem PoolR.ne2 {H : Hp} {p t : Addr} {i j : Int} (h : PoolR H p) (e : H t = some (.lst [.int i, .int j])) : t ≠ p := by
  obtain ⟨g, s, ns, ms, d, c, h1, _⟩ := h
  refine ne_of e h1 (fun z => ?_)
  injection z with z
  injection z with z
  cases z
/-! ### what is alike -/
theorem paired_join {α β γ : Type} {F : α → γ → Prop} {G : β → γ → Prop} {R : α → β → Prop} (h : ∀ a b c, F a c → G b c → R a b) : ∀ {l : List α} {l' : List β} {m : List γ}, Paired F l m → Paired G l' m → Paired R l l'
  | _, _, _, .nil, .nil => .nil
  | _, _, _, .cons r t, .cons r' t' => .cons (h _ _ _ r r') (paired_join h t t')
theorem sv_str {H : Hp} {n : Nat} (z : PySem.Str) : SV H (n + 1) (.str z) (.str z) := .inr (.inr (.inl ⟨z, rfl, rfl⟩))
theorem paired_strs {H : Hp} {n : Nat} : ∀ xs : List PySem.Str, Paired (SV H (n + 1)) (xs.map V.str) (xs.map V.str)
  | [] => .nil
  | z :: r => .cons (sv_str z) (paired_strs r)
theorem sv_txs {H : Hp} {n : Nat} {p q : Addr} {xs : List PySem.Str} (h1 : Tx H xs p) (h2 : Tx H xs q) (hl : xs.length ≤ 100) : SV H (n + 2) (.ref p) (.ref q) :=
  .inr (.inr (.inr ⟨p, q, _, _, rfl, rfl, h1, h2, by rw [List.length_map]; exact hl, paired_strs xs⟩))
theorem sv_gv {H : Hp} {n : Nat} {p q : Addr} {g : List (PySem.Str × PySem.Str)} (h1 : GvR H g p) (h2 : GvR H g q) (hl : g.length ≤ 100) : SV H (n + 3) (.ref p) (.ref q) := by
  obtain ⟨vs, e1, p1⟩ := h1
  obtain ⟨us, e2, p2⟩ := h2
  have l1 := paired_length p1
  refine .inr (.inr (.inr ⟨p, q, vs, us, rfl, rfl, e1, e2, by omega, paired_join (fun a b c ha hb => ?_) p1 p2⟩))
  obtain ⟨x, rfl, hx⟩ := ha
  obtain ⟨y, rfl, hy⟩ := hb
  exact .inr (.inr (.inr ⟨x, y, _, _, rfl, rfl, hx, hy, by show 2 ≤ 100; decide, .cons (sv_str _) (.cons (sv_str _) .nil)⟩))
/-! ### plain facts -/
theorem evs_of {ws ss rs : List PySem.Str} {e : Ex PySem.Str} (c : chk ws ss e = true) (sub : ∀ s ∈ e.slots, s ∈ rs) : Evs ws rs e := fun g h1 h2 => by
  obtain ⟨u, e1, _⟩ := ev_some h2 c (fun s hs => by rw [h1]; exact sub s hs)
  exact ⟨u, e1⟩
theorem evs_e {ws ss : List PySem.Str} {e o : Ex PySem.Str} (c : chk ws ss e = true) : Evs ws (reads e ++ further e o) e := evs_of c fun s hs => List.mem_append_left _ (reads_mem.mpr hs)
theorem evs_o {ws ss : List PySem.Str} {e o : Ex PySem.Str} (c : chk ws ss o = true) : Evs ws (reads e ++ further e o) o := evs_of c fun s hs => both_slots hs
theorem unlike_gok {ws ss : List PySem.Str} {e o : Ex PySem.Str} {g : List (PySem.Str × PySem.Str)} (c : chk ws ss e = true) (d : chk ws ss o = true) (h : firstUnlike ws e o = some g) : GOk ws ss g ∧ g.length ≤ ss.length := by
  have hm : g ∈ allG ws (reads e ++ further e o) := List.mem_of_find?_eq_some h
  obtain ⟨h1, h2⟩ := allG_mem hm
  refine ⟨gok_of h1 h2 fun s hs => ?_, ?_⟩
  · rcases List.mem_append.mp hs with m | m
    · exact chk_slots c s (reads_mem.mp m)
    · exact chk_slots d s (reads_mem.mp (further_mem m))
  · have l := congrArg List.length h1
    rw [List.length_map] at l
    rw [l]
    exact both_length c d
theorem checked_same {ws ss : List PySem.Str} {e : Ex PySem.Str} {f h : PySem.Str → PySem.Str} (c : chk ws ss e = true) : shape ws.length (e.ren f h) ∧ chk ws ss (e.ren f h) = stands ws ss (e.ren f h) :=
  have q := shape_ren (f := f) (h := h) (chk_shape c)
  ⟨q, chk_stands q⟩
end K4
/-! K20: law. -/
namespace K4
open PySem PySem.Spec PyProof.Rows L2
theorem go_set {i : Nat} {x : V} {σ : L2.St} {H : Hp} {te : TE} {g : TG} {B : TS} {D : Ends} (h : te (σ.set i (some x)) H fun y H1 => g y (σ.set i (some x)) H1 (B D)) : gName i x σ H (tSeq (tAsg te g) B D) := h
theorem go_cons {ta : TE} {tr : TA} {σ : L2.St} {H : Hp} {Q : List V → Hp → Prop} (h : ta σ H fun x H1 => tr σ H1 fun xs H2 => Q (x :: xs) H2) : tCons ta tr σ H Q := h
section
variable {P : Program} {w : World} {K : PySem.W.Frag} {mg : Str → Option Value} {base : Heap}
abbrev nLaw : List PySem.Str := ["_law_script", "_law_pool_here", "_law_ways", "_law_words", "_law_slots", "_law_expr", "_law_other", "_law_tables", "_law_new_words", "_law_new_slots", "_law_first", "_law_second", "_law_given", "_law_due", "_law_told", "_law_word", "_law_slot"]
theorem scLaw : FnScope nLaw ["_law_script"] (defScope sLaw) := ⟨rfl, rfl, rfl, by decide +kernel, rfl, by decide +kernel, by decide +kernel⟩
/-- a def that the law calls: it keeps its promise, its arguments bind, it stands in the module -/
structure At (P : Program) (w : World) (K : PySem.W.Frag) (mg : Str → Option Value) (base : Heap) (k : Nat) (x : Str) (ps : List Str) (sp : Sp) : Prop where
  ok : ∃ (f : Addr) (fd : FuncData), FnOk P w K mg base CX0 k f fd ps sp ∧ Binds K fd ps [] ∧ PySem.W.keepIn K (.ref f) = true ∧ mg x = some (.ref f)
def tIt (K : PySem.W.Frag) : List V → Hp → VK → Prop := fun xs H Q => ∃ p ys, xs = [.ref p] ∧ SqL K H p ys ∧ ∀ (l : Addr) (o : Obj), H l = none → o.dict = none → Q (.ref l) (upd H l (.frz o (.tup ys)))
/-- what law(script) promises -/
def spLaw (K : PySem.W.Frag) : Sp := fun vs H Q _ => ∃ (a : Addr) (ns : List Int), vs = [.ref a] ∧ SqL K H a (ns.map V.int) ∧ ns.length ≤ 63 ∧ ∀ H', Q (.bl true) H'
theorem ok_law {f : Addr} {fd : FuncData} (F : L2.Fun K "law" "law" sLaw f fd) (B : Blt mg)
    (aPool : At P w K mg base 1 "_law_pool" ["_law_script"] (spPool K)) (aDraw : At P w K mg base 1 "_law_draw" ["_law_pool_here", "_law_many"] spDraw) (aPick : At P w K mg base 2 "_law_pick" ["_law_pool_here", "_law_items"] spPick)
    (aNames : At P w K mg base 3 "_law_names" ["_law_pool_here", "_law_count"] spNames) (aTree : At P w K mg base 9 "_law_tree" psTree (spTree 6)) (aTable : At P w K mg base 4 "_law_table" ["_law_pool_here", "_law_olds", "_law_way"] spTable)
    (aAs : At P w K mg base 6 "_law_as" ["_law_tables", "_law_expr"] (spAs K 6)) (aGiv : At P w K mg base 1 "_law_given_as" ["_law_tables", "_law_given"] (spGivenAs K)) (aChk : At P w K mg base 5 "_law_checked" psCk spChecked) (aStd : At P w K mg base 6 "_law_stands" psCk (spStands 6))
    (aSame : At P w K mg base 3 "_law_same" psSm (spSame 3)) (aVal : At P w K mg base 7 "value" ["words", "expr", "given"] (spVal 6)) (aReads : At P w K mg base 1 "reads" ["expr"] spReads) (aMat : At P w K mg base 9 "matters" ["words", "expr"] (spMat 6))
    (aUnl : At P w K mg base 8 "first_unlike" ["words", "expr", "other"] (spUnl 6)) :
    FnOk P w K mg base CX0 10 f fd ["_law_script"] (spLaw K) := by
  obtain ⟨fPo, fdPo, GPo, bPo, kPo, mPo⟩ := aPool.ok
  obtain ⟨fD, fdD, GD, bD, kD, mD⟩ := aDraw.ok
  obtain ⟨fP, fdP, GP, bP, kP, mP⟩ := aPick.ok
  obtain ⟨fN, fdN, GN, bN, kN, mN⟩ := aNames.ok
  obtain ⟨fT, fdT, GT, bT, kT, mT⟩ := aTree.ok
  obtain ⟨fTa, fdTa, GTa, bTa, kTa, mTa⟩ := aTable.ok
  obtain ⟨fA, fdA, GA, bA, kA, mA⟩ := aAs.ok
  obtain ⟨fG, fdG, GG, bG, kG, mG⟩ := aGiv.ok
  obtain ⟨fC, fdC, GC, bC, kC, mC⟩ := aChk.ok
  obtain ⟨fS, fdS, GS, bS, kS, mS⟩ := aStd.ok
  obtain ⟨fE, fdE, GE, bE, kE, mE⟩ := aSame.ok
  obtain ⟨fV, fdV, GV, bV, kV, mV⟩ := aVal.ok
  obtain ⟨fR, fdR, GR, bR, kR, mR⟩ := aReads.ok
  obtain ⟨fM, fdM, GM, bM, kM, mM⟩ := aMat.ok
  obtain ⟨fU, fdU, GU, bU, kU, mU⟩ := aUnl.ok
  refine F.ok scLaw (fun vs H Q E h => ?_) (fun cdv A outer s H vs Q E hr h => ?_)
  · obtain ⟨a, ns, rfl, _⟩ := h
    rfl
  obtain ⟨a, ns, rfl, hS, h63, q⟩ := h
  have nd := scLaw.nd
  have hu := hu_of hr
  have hr1 : Room 1 _ := hr.mono (by decide)
  have hr2 : Room 2 _ := hr.mono (by decide)
  have hr3 : Room 3 _ := hr.mono (by decide)
  have hr4 : Room 4 _ := hr.mono (by decide)
  have hr5 : Room 5 _ := hr.mono (by decide)
  have hr6 : Room 6 _ := hr.mono (by decide)
  have hr7 : Room 7 _ := hr.mono (by decide)
  have hr8 : Room 8 _ := hr.mono (by decide)
  refine ⟨_, pss_cons (ps_set (i := 1) nd rfl (.inr rfl) (pe_call GPo hr1 rfl mPo kPo bPo .nil pass0 (pa_cons (pv 0) pa_nil)))
    (pss_cons (ps_set (i := 2) nd rfl (.inl rfl) (pe_lst (pa_cons (pe_call GD hr1 rfl mD kD bD .nil pass0 (pa_cons (pv 1) (pa_cons pe_int pa_nil))) (pa_cons (pe_call GD hr1 rfl mD kD bD .nil pass0 (pa_cons (pv 1) (pa_cons pe_int pa_nil))) pa_nil))))
    (pss_cons (ps_set (i := 3) nd rfl (.inr rfl) (pe_callTy (r := tIt K) call_tuple_frz rfl B.tup (by decide +kernel) (pa_cons (pe_call GN hr3 rfl mN kN bN .nil pass0 (pa_cons (pv 1) (pa_cons (pe_op op_add pe_int (pe_call GD hr1 rfl mD kD bD .nil pass0 (pa_cons (pv 1) (pa_cons pe_int pa_nil)))) pa_nil))) pa_nil)))
    (pss_cons (ps_set (i := 4) nd rfl (.inl rfl) (pe_callTy (r := tIt K) call_tuple_frz rfl B.tup (by decide +kernel) (pa_cons (pe_call GN hr3 rfl mN kN bN .nil pass0 (pa_cons (pv 1) (pa_cons (pe_op op_add pe_int (pe_call GD hr1 rfl mD kD bD .nil pass0 (pa_cons (pv 1) (pa_cons pe_int pa_nil)))) pa_nil))) pa_nil)))
    (pss_cons (ps_set (i := 5) nd rfl (.inl rfl) (pe_call GT hr rfl mT kT bT .nil pass0 (pa_cons (pv 1) (pa_cons (pv 3) (pa_cons (pv 4) (pa_cons (pe_call GD hr1 rfl mD kD bD .nil pass0 (pa_cons (pv 1) (pa_cons pe_int pa_nil))) (pa_cons pe_int pa_nil)))))))
    (pss_cons (ps_set (i := 6) nd rfl (.inl rfl) (pe_call GT hr rfl mT kT bT .nil pass0 (pa_cons (pv 1) (pa_cons (pv 3) (pa_cons (pv 4) (pa_cons (pe_call GD hr1 rfl mD kD bD .nil pass0 (pa_cons (pv 1) (pa_cons pe_int pa_nil))) (pa_cons pe_int pa_nil)))))))
    (pss_cons (ps_set (i := 7) nd rfl (.inr rfl) (pe_lst (pa_cons (pe_call GTa hr4 rfl mTa kTa bTa .nil pass0 (pa_cons (pv 1) (pa_cons (pv 3) (pa_cons (pe_ix ix_list (pv 2) pe_int (fun _ _ => rfl)) pa_nil)))) (pa_cons (pe_call GTa hr4 rfl mTa kTa bTa .nil pass0 (pa_cons (pv 1) (pa_cons (pv 4) (pa_cons (pe_ix ix_list (pv 2) pe_int (fun _ _ => rfl)) pa_nil)))) pa_nil))))
    (pss_cons (ps_set (i := 8) nd rfl (.inl rfl) (pe_callTy (r := tIt K) call_tuple_frz rfl B.tup (by decide +kernel) (pa_cons (pe_lc (own := [("_law_word", 15)]) (g := gName 15) (tt := tYes) (te := tDGet (tOp (rIxL K) (tVar 7) (tC (.int 0))) (tVar 15)) rfl nd (pi_tup (pv 3))
        (blkOk_by (own := [("_law_word", 15)]) (N := nLaw) (sc := defScope sLaw) (by decide +kernel)) (fun _ _ _ _ _ => by exact pg_name (i := 15) nd rfl (.inl rfl)) (fun _ _ _ _ _ => pts_nil)
        (fun _ _ _ _ _ => by exact pe_dget hu (pe_ix ix_list (pv 7) pe_int (fun _ _ => rfl)) (pv 15) (fun _ _ => rfl))) pa_nil)))
    (pss_cons (ps_set (i := 9) nd rfl (.inl rfl) (pe_callTy (r := tIt K) call_tuple_frz rfl B.tup (by decide +kernel) (pa_cons (pe_lc (own := [("_law_slot", 16)]) (g := gName 16) (tt := tYes) (te := tDGet (tOp (rIxL K) (tVar 7) (tC (.int 1))) (tVar 16)) rfl nd (pi_tup (pv 4))
        (blkOk_by (own := [("_law_slot", 16)]) (N := nLaw) (sc := defScope sLaw) (by decide +kernel)) (fun _ _ _ _ _ => by exact pg_name (i := 16) nd rfl (.inl rfl)) (fun _ _ _ _ _ => pts_nil)
        (fun _ _ _ _ _ => by exact pe_dget hu (pe_ix ix_list (pv 7) pe_int (fun _ _ => rfl)) (pv 16) (fun _ _ => rfl))) pa_nil)))
    (pss_cons (ps_set (i := 10) nd rfl (.inl rfl) (pe_call GA hr6 rfl mA kA bA .nil pass0 (pa_cons (pv 7) (pa_cons (pv 5) pa_nil))))
    (pss_cons (ps_set (i := 11) nd rfl (.inl rfl) (pe_call GA hr6 rfl mA kA bA .nil pass0 (pa_cons (pv 7) (pa_cons (pv 6) pa_nil))))
    (pss_cons (ps_if (PW.pt (pw_or (pt_not (pt_val (pe_call GC hr5 rfl mC kC bC .nil pass0 (pa_cons (pv 3) (pa_cons (pv 4) (pa_cons (pv 5) pa_nil)))))) (pw_or1 (pt_not (pt_val (pe_call GC hr5 rfl mC kC bC .nil pass0 (pa_cons (pv 8) (pa_cons (pv 9) (pa_cons (pv 10) pa_nil))))))))) (pss_one (ps_ret pe_bl)) pss_nil)
    (pss_cons (ps_if (pt_not (pt_val (pe_call GE hr3 rfl mE kE bE .nil pass0 (pa_cons (pe_call GC hr5 rfl mC kC bC .nil pass0 (pa_cons (pv 3) (pa_cons (pv 4) (pa_cons (pv 10) pa_nil)))) (pa_cons (pe_call GS hr6 rfl mS kS bS .nil pass0 (pa_cons (pv 3) (pa_cons (pv 4) (pa_cons (pv 10) pa_nil)))) pa_nil))))) (pss_one (ps_ret pe_bl)) pss_nil)
    (pss_cons (ps_set (i := 12) nd rfl (.inl rfl) (pe_callTy (r := rTupOf K) call_tuple_of rfl B.tup (by decide +kernel) (pa_cons (pe_lc (own := [("_law_slot", 16)]) (g := gName 16) (tt := tYes) (te := tTup (tCons (tVar 16) (tCons (tCall spPick [] E0 (tCons (tVar 1) (tCons (tVar 3) tNil))) tNil))) rfl nd (pi_tup (pv 4))
        (blkOk_by (own := [("_law_slot", 16)]) (N := nLaw) (sc := defScope sLaw) (by decide +kernel)) (fun _ _ _ _ _ => by exact pg_name (i := 16) nd rfl (.inl rfl)) (fun _ _ _ _ _ => pts_nil)
        (fun _ _ _ _ _ => by exact pe_tup (pa_cons (pv 16) (pa_cons (pe_call GP hr2 rfl mP kP bP .nil pass0 (pa_cons (pv 1) (pa_cons (pv 3) pa_nil))) pa_nil)))) pa_nil)))
    (pss_cons (ps_set (i := 13) nd rfl (.inl rfl) (pe_dget hu (pe_ix ix_list (pv 7) pe_int (fun _ _ => rfl)) (pe_call GV hr7 rfl mV kV bV .nil pass0 (pa_cons (pv 3) (pa_cons (pv 5) (pa_cons (pv 12) pa_nil)))) (fun _ _ => rfl)))
    (pss_cons (ps_if (pt_not (pt_val (pe_call GE hr3 rfl mE kE bE .nil pass0 (pa_cons (pe_call GV hr7 rfl mV kV bV .nil pass0 (pa_cons (pv 8) (pa_cons (pv 10) (pa_cons (pe_call GG hr1 rfl mG kG bG .nil pass0 (pa_cons (pv 7) (pa_cons (pv 12) pa_nil))) pa_nil)))) (pa_cons (pv 13) pa_nil))))) (pss_one (ps_ret pe_bl)) pss_nil)
    (pss_cons (ps_if (pt_not (pt_val (pe_call GE hr3 rfl mE kE bE .nil pass0 (pa_cons (pe_call GR hr1 rfl mR kR bR .nil pass0 (pa_cons (pv 10) pa_nil)) (pa_cons (pe_callTy (r := rTupOf K) call_tuple_of rfl B.tup (by decide +kernel) (pa_cons (pe_lc (own := [("_law_slot", 16)]) (g := gName 16) (tt := tYes) (te := tDGet (tOp (rIxL K) (tVar 7) (tC (.int 1))) (tVar 16)) rfl nd (pi_tup (pe_call GR hr1 rfl mR kR bR .nil pass0 (pa_cons (pv 5) pa_nil)))
        (blkOk_by (own := [("_law_slot", 16)]) (N := nLaw) (sc := defScope sLaw) (by decide +kernel)) (fun _ _ _ _ _ => by exact pg_name (i := 16) nd rfl (.inl rfl)) (fun _ _ _ _ _ => pts_nil)
        (fun _ _ _ _ _ => by exact pe_dget hu (pe_ix ix_list (pv 7) pe_int (fun _ _ => rfl)) (pv 16) (fun _ _ => rfl))) pa_nil)) pa_nil))))) (pss_one (ps_ret pe_bl)) pss_nil)
    (pss_cons (ps_if (pt_not (pt_val (pe_call GE hr3 rfl mE kE bE .nil pass0 (pa_cons (pe_call GM hr rfl mM kM bM .nil pass0 (pa_cons (pv 8) (pa_cons (pv 10) pa_nil))) (pa_cons (pe_callTy (r := rTupOf K) call_tuple_of rfl B.tup (by decide +kernel) (pa_cons (pe_lc (own := [("_law_slot", 16)]) (g := gName 16) (tt := tYes) (te := tDGet (tOp (rIxL K) (tVar 7) (tC (.int 1))) (tVar 16)) rfl nd (pi_tup (pe_call GM hr rfl mM kM bM .nil pass0 (pa_cons (pv 3) (pa_cons (pv 5) pa_nil))))
        (blkOk_by (own := [("_law_slot", 16)]) (N := nLaw) (sc := defScope sLaw) (by decide +kernel)) (fun _ _ _ _ _ => by exact pg_name (i := 16) nd rfl (.inl rfl)) (fun _ _ _ _ _ => pts_nil)
        (fun _ _ _ _ _ => by exact pe_dget hu (pe_ix ix_list (pv 7) pe_int (fun _ _ => rfl)) (pv 16) (fun _ _ => rfl))) pa_nil)) pa_nil))))) (pss_one (ps_ret pe_bl)) pss_nil)
    (pss_cons (ps_set (i := 14) nd rfl (.inl rfl) (pe_call GU hr8 rfl mU kU bU .nil pass0 (pa_cons (pv 3) (pa_cons (pv 5) (pa_cons (pv 6) pa_nil)))))
    (pss_cons (ps_if (pt_cmpR op_notN (pv 14) pe_non (nomark _)) (pss_one (ps_set (i := 14) nd rfl (.inl rfl) (pe_call GG hr1 rfl mG kG bG .nil pass0 (pa_cons (pv 7) (pa_cons (pv 14) pa_nil))))) pss_nil)
    (pss_one (ps_ret (pe_call GE hr3 rfl mE kE bE .nil pass0 (pa_cons (pe_call GU hr8 rfl mU kU bU .nil pass0 (pa_cons (pv 8) (pa_cons (pv 10) (pa_cons (pv 11) pa_nil)))) (pa_cons (pv 14) pa_nil)))))))))))))))))))))))), ?_⟩
  -- the pool, the ways
  refine ⟨_, rfl, a, ns, rfl, hS, h63, fun H1 p s1 np hp1 => ?_⟩
  refine ⟨_, rfl, p, 2, rfl, by decide, by decide, hp1, fun H2 w0 k2 _ _ => ⟨_, rfl, p, 2, rfl, by decide, by decide, k2.pool, fun H3 w1 k3 _ _ => ⟨by show 2 ≤ sizeLine; decide, fun W nW => ?_⟩⟩⟩
  have p3 := k3.pool.mono (same_new nW (.lst [.int w0, .int w1]))
  have eW3 : (upd H3 W (.lst [.int w0, .int w1])) W = some (.lst [.int w0, .int w1]) := upd_same
  generalize upd H3 W (.lst [.int w0, .int w1]) = H4 at p3 eW3
  have nWp := p3.ne2 eW3
  -- the words
  refine ⟨_, rfl, _, rfl, p, 2, rfl, by decide, by decide, p3, fun H5 d5 k5 h50 h52 => ⟨_, _, rfl, rfl, ?_⟩⟩
  obtain ⟨j5, rfl⟩ : ∃ j : Nat, d5 = (j : Int) := ⟨d5.toNat, by omega⟩
  have e5 : (2 : Int) + (j5 : Int) = ((2 + j5 : Nat) : Int) := by omega
  refine ⟨p, 2 + j5, (by rw [← e5]; rfl), by omega, k5.pool, fun H6 l6 ws k6 _ el6 hwl hwnd => ⟨l6, _, rfl, .of el6, fun aW oW naW dW => ?_⟩⟩
  have s7 := same_new naW (.frz oW (.tup (ws.map V.str)))
  have hW7 : Wd (upd H6 aW (.frz oW (.tup (ws.map V.str)))) ws aW := ⟨oW, dW, upd_same⟩
  have k7 := ((k5.trans k6).same s7)
  generalize upd H6 aW (.frz oW (.tup (ws.map V.str))) = H7 at k7 hW7
  have hw0 : 0 < ws.length := by omega
  have hw3 : ws.length ≤ 3 := by omega
  -- the slots
  refine ⟨_, rfl, _, rfl, p, 4, rfl, by decide, by decide, k7.pool, fun H8 d8 k8 h80 h84 => ⟨_, _, rfl, rfl, ?_⟩⟩
  obtain ⟨j8, rfl⟩ : ∃ j : Nat, d8 = (j : Int) := ⟨d8.toNat, by omega⟩
  have e8 : (1 : Int) + (j8 : Int) = ((1 + j8 : Nat) : Int) := by omega
  refine ⟨p, 1 + j8, (by rw [← e8]; rfl), by omega, k8.pool, fun H9 l9 ss k9 _ el9 hsl hsnd => ⟨l9, _, rfl, .of el9, fun aS oS naS dS => ?_⟩⟩
  have s10 := same_new naS (.frz oS (.tup (ss.map V.str)))
  have hS10 : Wd (upd H9 aS (.frz oS (.tup (ss.map V.str)))) ss aS := ⟨oS, dS, upd_same⟩
  have k10' := ((k8.trans k9).same s10)
  generalize upd H9 aS (.frz oS (.tup (ss.map V.str))) = H10 at k10' hS10
  have k10 := k7.trans k10'
  have hW10 := hW7.mono (k10'.tk k7.pool)
  have hs0 : 0 < ss.length := by omega
  have hs4 : ss.length ≤ 4 := by omega
  -- the two expressions
  refine ⟨_, rfl, _, rfl, _, rfl, _, rfl, p, 6, rfl, by decide, by decide, k10.pool, fun H11 d11 k11 h110 h116 => ?_⟩
  obtain ⟨j11, rfl⟩ : ∃ j : Nat, d11 = (j : Int) := ⟨d11.toNat, by omega⟩
  have t11 := k11.tk k10.pool
  refine ⟨p, aW, aS, j11, 12, ws, ss, rfl, by omega, by decide, by decide, t11.rd hW10.tw, t11.rd hS10.tw, hw0, hw3, hs0, hs4, k11.pool, fun H12 x e k12' hx12 hc hsz hdp => ?_⟩
  have k12 := k11.trans k12'
  have t12 := k12.tk k10.pool
  refine ⟨_, rfl, _, rfl, _, rfl, _, rfl, p, 4, rfl, by decide, by decide, k12.pool, fun H13 d13 k13 h130 h134 => ?_⟩
  obtain ⟨j13, rfl⟩ : ∃ j : Nat, d13 = (j : Int) := ⟨d13.toNat, by omega⟩
  have t13 := (k12.trans k13).tk k10.pool
  refine ⟨p, aW, aS, j13, 6, ws, ss, rfl, by omega, by decide, by decide, t13.rd hW10.tw, t13.rd hS10.tw, hw0, hw3, hs0, hs4, k13.pool, fun H14 y o k14' hy14 hco hszo hdpo => ?_⟩
  have k14 := k12.trans (k13.trans k14')
  have t14 := k14.tk k10.pool
  have hx14 := hx12.mono ((k13.trans k14').tk k12.pool)
  have hW14 := hW10.mono t14
  have hS14 := hS10.mono t14
  have eW14 : H14 W = some (.lst [.int w0, .int w1]) := (k10.trans k14).keep W _ nWp eW3
  have p14 := k14.pool
  -- the tables
  refine ⟨_, rfl, _, rfl, _, rfl, W, _, _, _, rfl, rfl, .of eW14, atI_nat (j := 0) rfl, ?_⟩
  refine ⟨p, aW, w0, ws, rfl, hW14.tw, hwnd, hw0, by omega, p14, fun H15 t f k15 nt ht15 hf => ?_⟩
  refine ⟨_, rfl, _, rfl, _, rfl, W, _, _, _, rfl, rfl, .of (k15.keep W _ nWp eW14), atI_nat (j := 1) rfl, ?_⟩
  refine ⟨p, aS, w1, ss, rfl, ((k15.tk p14).rd hS14.tw), hsnd, hs0, hs4, k15.pool, fun H16 u h k16 nu hu16 hh => ⟨by show 2 ≤ sizeLine; decide, fun T nT => ?_⟩⟩
  have ht16 := ht15.kp k15.pool k16
  have s17 := same_new nT (.lst [.ref t, .ref u])
  have eT17 : (upd H16 T (.lst [.ref t, .ref u])) T = some (.lst [.ref t, .ref u]) := upd_same
  have ht17 := ht16.mono s17
  have hu17 := hu16.mono s17
  have k17 := ((k15.trans k16).same s17)
  generalize upd H16 T (.lst [.ref t, .ref u]) = H17 at s17 eT17 ht17 hu17 k17
  have t17 := k17.tk p14
  have p17 := k17.pool
  have hW17 := hW14.mono t17
  have hS17 := hS14.mono t17
  have hx17 := hx14.mono t17
  have hy17 := hy14.mono t17
  clear hW14 hS14 hx14 hy14 ht15 hu16 ht16 s17 k17 t17 t14 t13 t12 t11 hW10 hS10 hW7
  -- the new words, the new slots
  dsimp only
  refine go_set ?_
  refine ren_comp (v := 15) (k := 0) (zs := ws) (by exact fun _ => rfl) (by show 15 < 17; decide) (by exact fun R hR => ⟨_, rfl, hR H17 aW (Same.refl _) hW17.tw⟩) eT17 (atI_nat (j := 0) rfl) ht17 (fun _ q => q) (by omega) fun H18 l18 s18 el18 => ?_
  refine ⟨l18, _, rfl, .of el18, fun aN oN naN dN => ?_⟩
  have s19 := s18.trans (same_new naN (.frz oN (.tup ((ws.map f).map V.str))))
  have hN19 : Wd (upd H18 aN (.frz oN (.tup ((ws.map f).map V.str)))) (ws.map f) aN := ⟨oN, dN, upd_same⟩
  generalize upd H18 aN (.frz oN (.tup ((ws.map f).map V.str))) = H19 at s19 hN19
  dsimp only
  refine go_set ?_
  refine ren_comp (v := 16) (k := 1) (zs := ss) (by exact fun _ => rfl) (by show 16 < 17; decide) (by exact fun R hR => ⟨_, rfl, hR H19 aS (Same.refl _) ((tk_same s19).rd hS17.tw)⟩) (s19 _ _ eT17) (atI_nat (j := 1) rfl) (hu17.mono s19) (fun _ q => q) (by omega) fun H20 l20 s20 el20 => ?_
  refine ⟨l20, _, rfl, .of el20, fun aM oM naM dM => ?_⟩
  have s21 := s20.trans (same_new naM (.frz oM (.tup ((ss.map h).map V.str))))
  have hM21 : Wd (upd H20 aM (.frz oM (.tup ((ss.map h).map V.str)))) (ss.map h) aM := ⟨oM, dM, upd_same⟩
  generalize upd H20 aM (.frz oM (.tup ((ss.map h).map V.str))) = H21 at s21 hM21
  have s21' := s19.trans s21
  have hT21 : TbR K H21 T ws f ss h := TbR.mono s21' ⟨t, u, eT17, ht17, hu17⟩
  have hN21 := hN19.mono (tk_same s21)
  have t21 := tk_same s21'
  -- the renamed expressions
  have hd6 : e.deep ≤ 6 := by omega
  have ho6 : o.deep ≤ 6 := by omega
  refine ⟨_, rfl, _, rfl, T, x, ws, ss, f, h, e, rfl, hT21, hx17.mono t21, hc, hw3, hd6, fun H22 x' s22 hx22 => ?_⟩
  refine ⟨_, rfl, _, rfl, T, y, ws, ss, f, h, o, rfl, hT21.mono s22, (hy17.mono t21).mono (tk_same s22), hco, hw3, ho6, fun H23 y' s23 hy23 => ?_⟩
  have s23' := s22.trans s23
  have t23 := t21.trans (tk_same s23')
  have hT23 := hT21.mono s23'
  have hW23 := hW17.mono t23
  have hS23 := hS17.mono t23
  have hx23 := hx17.mono t23
  have hy23o := hy17.mono t23
  have hx23' := hx22.mono (tk_same s23)
  have hN23 := hN21.mono (tk_same s23')
  have hM23 := hM21.mono (tk_same s23')
  have p23 := p17.mono (s21'.trans s23')
  clear hN21 hM21 hT21 hx22 hN19 hW17 hS17 hx17 hy17
  dsimp only [gName]
  simp only [L2.start, nLaw, List.length_cons, List.length_nil, List.map_cons, List.map_nil, List.set_cons_succ, List.set_cons_zero, List.replicate, List.cons_append, List.nil_append]
  have hsr : (e.ren f h).size ≤ 12 := by rw [ren_size]; exact hsz
  have hdr : (e.ren f h).deep ≤ 6 := by rw [ren_deep]; exact hd6
  have hor : (o.ren f h).deep ≤ 6 := by rw [ren_deep]; exact ho6
  have hosr : (o.ren f h).size ≤ 1000 := by rw [ren_size]; omega
  have hcr := chk_ren (f := f) (h := h) hc
  have hcor := chk_ren (f := f) (h := h) hco
  have hwr : (ws.map f).length ≤ 3 := by rw [List.length_map]; exact hw3
  have hslr : (ss.map h).length ≤ 4 := by rw [List.length_map]; exact hs4
  -- both are checked
  refine ⟨_, rfl, _, rfl, _, rfl, aW, aS, x, ws, ss, e, rfl, hW23.tw, hS23.tw, hx23, hsz, hd6, fun H24 s24 => ⟨_, rfl, iteF' (by rw [hc]; rfl) ?_⟩⟩
  have t24 := tk_same s24
  refine ⟨_, rfl, _, rfl, _, rfl, aN, aM, x', ws.map f, ss.map h, e.ren f h, rfl, t24.rd hN23.tw, t24.rd hM23.tw, hx23'.mono t24, hsr, hdr, fun H25 s25 => ⟨_, rfl, iteF' (by rw [hcr]; rfl) ?_⟩⟩
  have s25' := s24.trans s25
  have t25 := tk_same s25'
  -- the old words in the new expression
  refine ⟨_, rfl, _, rfl, _, rfl, aW, aS, x', ws, ss, e.ren f h, rfl, t25.rd hW23.tw, t25.rd hS23.tw, hx23'.mono t25, hsr, hdr, fun H26 s26 => ?_⟩
  have s26' := s25'.trans s26
  have t26 := tk_same s26'
  refine ⟨_, rfl, _, rfl, _, rfl, aW, aS, x', ws, ss, e.ren f h, ws.length, rfl, t26.rd hW23.tw, t26.rd hS23.tw, hx23'.mono t26, (checked_same hc).1, hw3, hdr, fun H27 s27 => ?_⟩
  refine ⟨_, _, rfl, .inr (.inl ⟨stands ws ss (e.ren f h), by rw [(checked_same hc).2], rfl⟩), fun H28 s28 => ⟨_, rfl, iteF' rfl ?_⟩⟩
  have s28' := s26'.trans (s27.trans s28)
  have t28 := tk_same s28'
  have hT28 := hT23.mono s28'
  have p28 := p23.mono s28'
  have hW28 := hW23.mono t28
  have hS28 := hS23.mono t28
  have hx28 := hx23.mono t28
  have hy28 := hy23o.mono t28
  have hx28' := hx23'.mono t28
  have hy28' := hy23.mono t28
  have hN28 := hN23.mono t28
  clear s24 t24 s25 s25' t25 s26 s26' t26 s27 s28 hT23 p23 hW23 hS23 hx23 hy23o hx23' hy23 hN23 hM23 s28' t28
  -- what is given
  refine ⟨_, rfl, aS, rfl, ⟨_, .inl hS28.tw⟩, fun D nD => ?_⟩
  have nDp := p28.nn nD
  refine walk_ex (walk_tup (K := K) (a := aS) (xs := ss.map V.str)) (fun i H' => ∃ (acc : List V) (gs : List (PySem.Str × PySem.Str)), KpD p D H28 H' ∧ H' D = some (.lst acc) ∧ Paired (PrV H') acc gs ∧ gs.map (·.1) = ss.take i ∧ ∀ r ∈ gs, r.2 ∈ ws)
    ⟨[], [], .start p28 nD _, upd_same, .nil, rfl, fun _ hq => absurd hq List.not_mem_nil⟩ (fun i H' _ ⟨_, _, k, _⟩ => .inl ((k.kp.tk p28).rd hS28.tw)) ?_ ?_
  · rintro i v Ha Ha' hi ⟨acc, gs, ka, ea, hpr, hfst, hsnd⟩ ⟨rfl, hv⟩
    obtain ⟨z, hz, rfl⟩ := get_map_str hv
    rw [List.length_map] at hi
    refine ⟨rfl, ?_⟩
    refine ⟨_, rfl, _, rfl, _, rfl, p, aW, ws, rfl, (ka.kp.tk p28).rd hW28.tw, hw0, by omega, ka.kp.pool, fun Hb uu kb huu => ⟨by show 2 ≤ sizeLine; decide, fun c nc => ?_⟩⟩
    have eb := kb.keep D _ nDp ea
    have sc := same_new nc (.tup [.str z, .str uu])
    have ec := sc _ _ eb
    have tkc := (kb.tk ka.kp.pool).trans (tk_same sc)
    have tkd : TK (upd Hb c (.tup [.str z, .str uu])) (upd (upd Hb c (.tup [.str z, .str uu])) D (.lst (acc ++ [.ref c]))) := tk_lst ec _
    have hal := paired_length hpr
    have hgl := congrArg List.length hfst
    rw [List.length_map, List.length_take] at hgl
    refine ⟨_, ec, small1000 (by omega), acc ++ [.ref c], gs ++ [(z, uu)], ((ka.step ea kb).step eb (Kp.of kb.pool sc)).put p28 nD _, upd_same, ?_, ?_, fun r hr => ?_⟩
    · exact paired_append (paired_mono (fun v xs ⟨b, e, t⟩ => ⟨b, e, (tkc.trans tkd).tup t⟩) hpr) (.cons ⟨c, rfl, tkd.tup upd_same⟩ .nil)
    · rw [List.map_append, hfst, List.take_add_one, hz]
      rfl
    · rcases List.mem_append.mp hr with m | m
      · exact hsnd r m
      · rw [List.mem_singleton.mp m]
        exact huu
  rintro Ha ⟨acc, gs, ka, ea, hpr, hfst, hsnd⟩
  rw [List.length_map, List.take_length] at hfst
  refine ⟨D, acc, rfl, .inl ⟨.of ea, fun G nG => ?_⟩⟩
  have sG := same_new nG (.tup acc)
  have k29 := ka.kp.same sG
  have hG29 : GvR (upd Ha G (.tup acc)) gs G := ⟨acc, upd_same, paired_mono (fun v xs ⟨b, e, t⟩ => ⟨b, e, sG _ _ t⟩) hpr⟩
  generalize upd Ha G (.tup acc) = H29 at k29 hG29
  dsimp only [gName]
  simp only [List.set_cons_succ, List.set_cons_zero]
  have t29 := k29.tk p28
  have hT29 := hT28.kp p28 k29
  have hW29 := hW28.mono t29
  have hx29 := hx28.mono t29
  have hy29 := hy28.mono t29
  have hx29' := hx28'.mono t29
  have hy29' := hy28'.mono t29
  have hN29 := hN28.mono t29
  have hgl : gs.length ≤ 100 := by
    have l := congrArg List.length hfst
    rw [List.length_map] at l
    omega
  have gok : GOk ws ss gs := gok_of hfst hsnd fun _ hq => hq
  have hsl2 : ∀ z ∈ e.slots, z ∈ gs.map (·.1) := fun z hz => by
    rw [hfst]
    exact chk_slots hc z hz
  obtain ⟨u0, hev, hu0⟩ := ev_some hsnd hc hsl2
  obtain ⟨t', u', eT29, ht29, hu29⟩ := id hT29
  -- due
  refine ⟨_, rfl, T, _, _, _, rfl, rfl, .of eT29, atI_nat (j := 0) rfl, ?_⟩
  refine ⟨_, rfl, _, rfl, _, rfl, aW, G, x, ws, e, gs, u0, rfl, hW29, hx29, hG29, hd6, hev, t', _, rfl, ht29.get hu0, ?_⟩
  dsimp only [gName]
  simp only [List.set_cons_succ, List.set_cons_zero]
  have hevr : ev (ws.map f) (renG f h gs) (e.ren f h) = some (f u0) := by
    rw [ev_ren hf hh gok hc hsl2, hev]
    rfl
  -- the value under the new names
  refine ⟨_, rfl, _, rfl, _, rfl, _, rfl, T, G, ws, ss, f, h, gs, rfl, hT29, hG29, gok, hgl, fun H30 G2 s30 hG2 => ?_⟩
  have t30 := tk_same s30
  refine ⟨aN, G2, x', ws.map f, e.ren f h, renG f h gs, f u0, rfl, hN29.mono t30, hx29'.mono t30, hG2, hdr, hevr, ?_⟩
  refine ⟨_, rfl, _, _, rfl, sv_str _, fun H31 s31 => ⟨_, rfl, iteF' rfl ?_⟩⟩
  have s31' := s30.trans s31
  have t31 := tk_same s31'
  have hT31 := hT29.mono s31'
  have hW31 := hW29.mono t31
  have hx31 := hx29.mono t31
  have hy31 := hy29.mono t31
  have hx31' := hx29'.mono t31
  have hy31' := hy29'.mono t31
  have hN31 := hN29.mono t31
  -- what the two read
  have hrl : (reads e).length ≤ 4 := Nat.le_trans (reads_length hc) hs4
  have hrlr : (reads (e.ren f h)).length ≤ 4 := Nat.le_trans (reads_length hcr) hslr
  have hrs : ∀ z ∈ reads e, z ∈ ss := fun z hz => chk_slots hc z (reads_mem.mp hz)
  refine ⟨_, rfl, x', e.ren f h, rfl, hx31', by omega, fun H32 r1 s32 _ hr1 => ?_⟩
  rw [reads_ren hh hc] at hr1
  obtain ⟨t2, u2, eT32, _, hu32⟩ := hT31.mono s32
  refine go_cons ?_
  refine ren_comp (v := 16) (k := 1) (zs := reads e) (by exact fun _ => rfl) (by show 16 < 17; decide) (by exact fun R hR => ⟨_, rfl, x, e, rfl, hx31.mono (tk_same s32), by omega, fun Hz az sz _ hz => hR Hz az sz (.inl hz)⟩) eT32 (atI_nat (j := 1) rfl) hu32 hrs (by omega) fun H33 l33 s33 el33 => ?_
  refine ⟨l33, _, rfl, .inl ⟨.of el33, fun r2 nr2 => ?_⟩⟩
  have s34 := same_new nr2 (.tup (((reads e).map h).map V.str))
  refine ⟨_, _, rfl, sv_txs (xs := (reads e).map h) ((hr1.mono (tk_same s33)).mono (tk_same s34)) upd_same (by rw [List.length_map]; omega), fun H35 s35 => ⟨_, rfl, iteF' rfl ?_⟩⟩
  have s35' := s32.trans (s33.trans (s34.trans s35))
  have t35 := tk_same s35'
  have hT35 := hT31.mono s35'
  have hW35 := hW31.mono t35
  have hx35 := hx31.mono t35
  have hy35 := hy31.mono t35
  have hx35' := hx31'.mono t35
  have hy35' := hy31'.mono t35
  have hN35 := hN31.mono t35
  -- what matters
  have hml : (matters ws e).length ≤ 4 := by
    have l := mattersIn_length ws e (reads e) (count 0 (reads e))
    rw [count_length] at l
    exact Nat.le_trans l hrl
  refine ⟨_, rfl, _, rfl, aN, x', ws.map f, e.ren f h, rfl, hN35, hx35', hwr, by omega, hdr, by omega, evs_of hcr (fun z hz => reads_mem.mpr hz), fun H36 r3 s36 _ hr3 => ?_⟩
  rw [matters_ren hf hh hc] at hr3
  obtain ⟨t4, u4, eT36, _, hu36⟩ := hT35.mono s36
  have t36 := tk_same s36
  refine go_cons ?_
  refine ren_comp (v := 16) (k := 1) (zs := matters ws e) (by exact fun _ => rfl) (by show 16 < 17; decide) (by exact fun R hR => ⟨_, rfl, _, rfl, aW, x, ws, e, rfl, hW35.mono t36, hx35.mono t36, hw3, by omega, hd6, by omega, evs_of hc (fun z hz => reads_mem.mpr hz), fun Hz az sz _ hz => hR Hz az sz (.inl hz)⟩) eT36 (atI_nat (j := 1) rfl) hu36 (fun z hz => hrs z (matters_mem hz)) (by omega) fun H37 l37 s37 el37 => ?_
  refine ⟨l37, _, rfl, .inl ⟨.of el37, fun r4 nr4 => ?_⟩⟩
  have s38 := same_new nr4 (.tup (((matters ws e).map h).map V.str))
  refine ⟨_, _, rfl, sv_txs (xs := (matters ws e).map h) ((hr3.mono (tk_same s37)).mono (tk_same s38)) upd_same (by rw [List.length_map]; omega), fun H39 s39 => ⟨_, rfl, iteF' rfl ?_⟩⟩
  have s39' := s36.trans (s37.trans (s38.trans s39))
  have t39 := tk_same s39'
  have hT39 := hT35.mono s39'
  have hW39 := hW35.mono t39
  have hx39 := hx35.mono t39
  have hy39 := hy35.mono t39
  have hx39' := hx35'.mono t39
  have hy39' := hy35'.mono t39
  have hN39 := hN35.mono t39
  -- where the two differ
  have hbl : (reads e ++ further e o).length ≤ 6 := Nat.le_trans (both_length hc hco) (by omega)
  have hblr : (reads (e.ren f h) ++ further (e.ren f h) (o.ren f h)).length ≤ 6 := Nat.le_trans (both_length hcr hcor) (by omega)
  have hun := firstUnlike_ren hf hh hc hco
  refine ⟨_, rfl, _, rfl, _, rfl, aW, x, y, ws, e, o, rfl, hW39, hx39, hy39, hw3, hbl, hd6, ho6, by omega, by omega, evs_e hc, evs_o hco, fun hn H40 s40 => ?_, fun g hg H40 r5 s40 hr5 => ?_⟩
  · rw [hn] at hun
    have t40 := tk_same s40
    refine ⟨_, rfl, rfl, _, rfl, iteF' rfl ?_⟩
    refine ⟨_, rfl, _, rfl, _, rfl, aN, x', y', ws.map f, e.ren f h, o.ren f h, rfl, hN39.mono t40, hx39'.mono t40, hy39'.mono t40, hwr, hblr, hdr, hor, by omega, hosr, evs_e hcr, evs_o hcor, fun _ H41 s41 => ?_, fun g hg => ?_⟩
    · exact ⟨_, rfl, .non, .non, rfl, .inl ⟨rfl, rfl⟩, fun H42 _ => q H42⟩
    · rw [hun] at hg
      cases hg
  · rw [hg] at hun
    have t40 := tk_same s40
    obtain ⟨gokg, hglen⟩ := unlike_gok hc hco hg
    refine ⟨_, rfl, rfl, _, rfl, iteT' rfl ?_⟩
    refine ⟨_, rfl, _, rfl, T, r5, ws, ss, f, h, g, rfl, hT39.mono s40, hr5, gokg, by omega, fun H41 r6 s41 hr6 => ?_⟩
    have t41 := t40.trans (tk_same s41)
    refine ⟨_, rfl, _, rfl, _, rfl, aN, x', y', ws.map f, e.ren f h, o.ren f h, rfl, hN39.mono t41, hx39'.mono t41, hy39'.mono t41, hwr, hblr, hdr, hor, by omega, hosr, evs_e hcr, evs_o hcor, fun hn => ?_, fun g' hg' H42 r7 s42 hr7 => ?_⟩
    · rw [hun] at hn
      cases hn
    · rw [hun] at hg'
      have eg : renG f h g = g' := Option.some.inj hg'
      subst eg
      refine ⟨_, rfl, _, _, rfl, sv_gv hr7 (hr6.mono (tk_same s42)) (by unfold renG; rw [List.length_map]; omega), fun H43 _ => q H43⟩
end
end K4
/-! K21: the top of the program. -/
namespace K4
open PySem PySem.Spec PyProof.Rows L2
theorem te_of {K : PySem.W.Frag} {S : Addr} (h1 : PySem.W.subIn K (.ref S) (.type "BaseException") = some true) (h2 : PySem.W.isClsIn K S = true) (h3 : PySem.W.typeIn K (.ref S) = some (.type "type")) (h4 : PySem.W.subIn K (.ref S) (.ref S) = some true) :
    PySem.W.exmOne K (.ref S) (.ref S) = some true := by
  have h2' : (PySem.W.clsIn K S).isSome = true := h2
  unfold PySem.W.exmOne
  simp only [h1]
  unfold PySem.W.kitCls
  simp [h2', h3, h4]
section
variable {P : Program} {w : World} {K : PySem.W.Frag} {h : Heap} {mg : Str → Option Value}
theorem all_mk {fa C fI cc cda f1 f2 f3 f4 f5 f6 f7 f8 f9 f10 f11 f12 f13 f14 f15 f16 f17 f18 f19 f20 f21 f22 f23 f24 f25 : Addr} (X : K.In h) (G : h.Ns mainGlobals mg) (hfa : mg "law" = some (.ref fa))
    {nm q : Str} {N : Addr} {bs bm : List Value} {sn : List Str} {sub : List Value} {ab : Bool} {col : Option Bool} {dd : Option Addr} {m0 m1 m2 m3 m5 : Option Value}
    {od0 an0 cdd cld od1 an1 od2 an2 od3 an3 od4 an4 od5 an5 od6 an6 od7 an7 od8 an8 od9 an9 od10 an10 od11 an11 od12 an12 od13 an13 od14 an14 od15 an15 od16 an16 od17 an17 od18 an18 od19 an19 od20 an20 od21 an21 od22 an22 od23 an23 od24 an24 od25 an25 : Option Addr} {sl0 ccs csl sl1 sl2 sl3 sl4 sl5 sl6 sl7 sl8 sl9 sl10 sl11 sl12 sl13 sl14 sl15 sl16 sl17 sl18 sl19 sl20 sl21 sl22 sl23 sl24 sl25 : Array (Option Value)} {oc0 dc0 pm0 ct0 ccl cl oc1 kV1 dc1 pm1 cd1 ct1 oc2 kV2 dc2 pm2 cd2 ct2 oc3 kV3 dc3 pm3 cd3 ct3 oc4 kV4 dc4 pm4 cd4 ct4 oc5 kV5 dc5 pm5 cd5 ct5 oc6 kV6 dc6 pm6 cd6 ct6 oc7 kV7 dc7 pm7 cd7 ct7 oc8 kV8 dc8 pm8 cd8 ct8 oc9 kV9 dc9 pm9 cd9 ct9 oc10 kV10 dc10 pm10 cd10 ct10 oc11 kV11 dc11 pm11 cd11 ct11 oc12 kV12 dc12 pm12 cd12 ct12 oc13 kV13 dc13 pm13 cd13 ct13 oc14 kV14 dc14 pm14 cd14 ct14 oc15 kV15 dc15 pm15 cd15 ct15 oc16 kV16 dc16 pm16 cd16 ct16 oc17 kV17 dc17 pm17 cd17 ct17 oc18 kV18 dc18 pm18 cd18 ct18 oc19 kV19 dc19 pm19 cd19 ct19 oc20 kV20 dc20 pm20 cd20 ct20 oc21 kV21 dc21 pm21 cd21 ct21 oc22 kV22 dc22 pm22 cd22 ct22 oc23 kV23 dc23 pm23 cd23 ct23 oc24 kV24 dc24 pm24 cd24 ct24 oc25 kV25 dc25 pm25 cd25 ct25 : Value} {vs : Array Value} {file : Str} {tf tn td : Tok}
    (aC : PySem.W.nsIn K mainGlobals "InvalidExpr" = some (some (.ref C)))
    (xC : K.lookup C = some (excClassObj nm q C N bs bm true sn sub ab col dd m0 m1 m2 m3 m5 "ValueError.__new__"))
    (hbm : PySem.HandSPX.refsVE bm = true)
    (sa : PySem.W.findIn K (.ref C) "__setattr__" = some (some (.builtin "object.__setattr__")))
    (nb : PySem.W.findIn K (.ref C) "path" = some none)
    (a0 : PySem.W.findIn K (.ref C) "__init__" = some (some (.ref fI)))
    (t0 : PySem.W.typeIn K (.ref fI) = some (.type "function"))
    (kC : PySem.W.keepIn K (.ref C) = true)
    (eC : PySem.W.subIn K (.ref C) (.type "BaseException") = some true)
    (tC : PySem.W.typeIn K (.ref C) = some (.type "type"))
    (vC : PySem.W.subIn K (.ref C) (.type "ValueError") = some true)
    (oC : PySem.W.mroIn K C (.ref C) = some true)
    (iC : PySem.W.isClsIn K C = true)
    (sC : PySem.W.subIn K (.ref C) (.ref C) = some true)
    (up : PySem.W.ks_superIn K C C "__init__" = some (some (.builtin "ValueError.__init__")))
    (opq : PySem.W.nsIn K cStatics "thirdparty.any" = some none)
    (l0 : K.lookup fI = some ⟨oc0, od0, .func (PySem.W.ksFn "__init__" "InvalidExpr.__init__" (defArgs sInvInit) (defBody sInvInit) (defScope sInvInit) .none .none dc0 pm0 an0 (.ref cda) ct0 cc), sl0⟩)
    (c0 : PySem.W.codeIn K (.ref cda) "InvalidExpr.__init__" = true)
    (lcc : K.lookup cc = some ⟨cl, cld, .cell (some (.ref C)), csl⟩)
    (lcd : K.lookup cda = some ⟨ccl, cdd, .fields vs, ccs⟩)
    (hfi : vs[2]? = some (.str file tf))
    (hP : ((P.main.file : Str) == file) = true)
    (tp : (P.main.scope.names.lookup ("super" : Str)).isSome = false)
    (zs : PySem.W.nsIn K mainGlobals "super" = some none)
    (gn : PySem.W.nsIn K mainGlobals "MOST_NODES" = some (some (.int 12 tn)))
    (gd : PySem.W.nsIn K mainGlobals "MOST_DEPTH" = some (some (.int 6 td)))
    (z_isi : PySem.W.nsIn K mainGlobals "isinstance" = some none)
    (z_tup : PySem.W.nsIn K mainGlobals "tuple" = some none)
    (z_len : PySem.W.nsIn K mainGlobals "len" = some none)
    (z_rev : PySem.W.nsIn K mainGlobals "reversed" = some none)
    (z_rng : PySem.W.nsIn K mainGlobals "range" = some none)
    (z_lst : PySem.W.nsIn K mainGlobals "list" = some none)
    (z_enu : PySem.W.nsIn K mainGlobals "enumerate" = some none)
    (z_int : PySem.W.nsIn K mainGlobals "int" = some none)
    (z_abs : PySem.W.nsIn K mainGlobals "abs" = some none)
    (z_all : PySem.W.nsIn K mainGlobals "all" = some none)
    (z_zip : PySem.W.nsIn K mainGlobals "zip" = some none)
    (z_bool : PySem.W.nsIn K mainGlobals "bool" = some none)
    (z_str : PySem.W.nsIn K mainGlobals "str" = some none)
    (a1 : PySem.W.nsIn K mainGlobals "is_row" = some (some (.ref f1)))
    (l1 : K.lookup f1 = some ⟨oc1, od1, .func (PySem.W.fnOf "is_row" "is_row" (defArgs sIsRow) (defBody sIsRow) (defScope sIsRow) .none kV1 dc1 pm1 an1 cd1 ct1), sl1⟩)
    (c1 : PySem.W.codeIn K cd1 "is_row" = true)
    (k1 : PySem.W.keepIn K (.ref f1) = true)
    (a2 : PySem.W.nsIn K mainGlobals "is_square" = some (some (.ref f2)))
    (l2 : K.lookup f2 = some ⟨oc2, od2, .func (PySem.W.fnOf "is_square" "is_square" (defArgs sIsSq) (defBody sIsSq) (defScope sIsSq) .none kV2 dc2 pm2 an2 cd2 ct2), sl2⟩)
    (c2 : PySem.W.codeIn K cd2 "is_square" = true)
    (k2 : PySem.W.keepIn K (.ref f2) = true)
    (a3 : PySem.W.nsIn K mainGlobals "node_fits" = some (some (.ref f3)))
    (l3 : K.lookup f3 = some ⟨oc3, od3, .func (PySem.W.fnOf "node_fits" "node_fits" (defArgs sFits) (defBody sFits) (defScope sFits) .none kV3 dc3 pm3 an3 cd3 ct3), sl3⟩)
    (c3 : PySem.W.codeIn K cd3 "node_fits" = true)
    (k3 : PySem.W.keepIn K (.ref f3) = true)
    (a4 : PySem.W.nsIn K mainGlobals "check_expr" = some (some (.ref f4)))
    (l4 : K.lookup f4 = some ⟨oc4, od4, .func (PySem.W.fnOf "check_expr" "check_expr" (defArgs sCheck) (defBody sCheck) (defScope sCheck) .none kV4 dc4 pm4 an4 cd4 ct4), sl4⟩)
    (c4 : PySem.W.codeIn K cd4 "check_expr" = true)
    (k4 : PySem.W.keepIn K (.ref f4) = true)
    (a5 : PySem.W.nsIn K mainGlobals "word_given" = some (some (.ref f5)))
    (l5 : K.lookup f5 = some ⟨oc5, od5, .func (PySem.W.fnOf "word_given" "word_given" (defArgs sWord) (defBody sWord) (defScope sWord) .none kV5 dc5 pm5 an5 cd5 ct5), sl5⟩)
    (c5 : PySem.W.codeIn K cd5 "word_given" = true)
    (k5 : PySem.W.keepIn K (.ref f5) = true)
    (a6 : PySem.W.nsIn K mainGlobals "value" = some (some (.ref f6)))
    (l6 : K.lookup f6 = some ⟨oc6, od6, .func (PySem.W.fnOf "value" "value" (defArgs sValue) (defBody sValue) (defScope sValue) .none kV6 dc6 pm6 an6 cd6 ct6), sl6⟩)
    (c6 : PySem.W.codeIn K cd6 "value" = true)
    (k6 : PySem.W.keepIn K (.ref f6) = true)
    (a7 : PySem.W.nsIn K mainGlobals "reads" = some (some (.ref f7)))
    (l7 : K.lookup f7 = some ⟨oc7, od7, .func (PySem.W.fnOf "reads" "reads" (defArgs sReads) (defBody sReads) (defScope sReads) .none kV7 dc7 pm7 an7 cd7 ct7), sl7⟩)
    (c7 : PySem.W.codeIn K cd7 "reads" = true)
    (k7 : PySem.W.keepIn K (.ref f7) = true)
    (a8 : PySem.W.nsIn K mainGlobals "all_given" = some (some (.ref f8)))
    (l8 : K.lookup f8 = some ⟨oc8, od8, .func (PySem.W.fnOf "all_given" "all_given" (defArgs sAll) (defBody sAll) (defScope sAll) .none kV8 dc8 pm8 an8 cd8 ct8), sl8⟩)
    (c8 : PySem.W.codeIn K cd8 "all_given" = true)
    (k8 : PySem.W.keepIn K (.ref f8) = true)
    (a9 : PySem.W.nsIn K mainGlobals "differs_at" = some (some (.ref f9)))
    (l9 : K.lookup f9 = some ⟨oc9, od9, .func (PySem.W.fnOf "differs_at" "differs_at" (defArgs sDiff) (defBody sDiff) (defScope sDiff) .none kV9 dc9 pm9 an9 cd9 ct9), sl9⟩)
    (c9 : PySem.W.codeIn K cd9 "differs_at" = true)
    (k9 : PySem.W.keepIn K (.ref f9) = true)
    (a10 : PySem.W.nsIn K mainGlobals "matters" = some (some (.ref f10)))
    (l10 : K.lookup f10 = some ⟨oc10, od10, .func (PySem.W.fnOf "matters" "matters" (defArgs sMat) (defBody sMat) (defScope sMat) .none kV10 dc10 pm10 an10 cd10 ct10), sl10⟩)
    (c10 : PySem.W.codeIn K cd10 "matters" = true)
    (k10 : PySem.W.keepIn K (.ref f10) = true)
    (a11 : PySem.W.nsIn K mainGlobals "first_unlike" = some (some (.ref f11)))
    (l11 : K.lookup f11 = some ⟨oc11, od11, .func (PySem.W.fnOf "first_unlike" "first_unlike" (defArgs sUnl) (defBody sUnl) (defScope sUnl) .none kV11 dc11 pm11 an11 cd11 ct11), sl11⟩)
    (c11 : PySem.W.codeIn K cd11 "first_unlike" = true)
    (k11 : PySem.W.keepIn K (.ref f11) = true)
    (a12 : PySem.W.nsIn K mainGlobals "_law_pool" = some (some (.ref f12)))
    (l12 : K.lookup f12 = some ⟨oc12, od12, .func (PySem.W.fnOf "_law_pool" "_law_pool" (defArgs sPool) (defBody sPool) (defScope sPool) .none kV12 dc12 pm12 an12 cd12 ct12), sl12⟩)
    (c12 : PySem.W.codeIn K cd12 "_law_pool" = true)
    (k12 : PySem.W.keepIn K (.ref f12) = true)
    (a13 : PySem.W.nsIn K mainGlobals "_law_draw" = some (some (.ref f13)))
    (l13 : K.lookup f13 = some ⟨oc13, od13, .func (PySem.W.fnOf "_law_draw" "_law_draw" (defArgs sDraw) (defBody sDraw) (defScope sDraw) .none kV13 dc13 pm13 an13 cd13 ct13), sl13⟩)
    (c13 : PySem.W.codeIn K cd13 "_law_draw" = true)
    (k13 : PySem.W.keepIn K (.ref f13) = true)
    (a14 : PySem.W.nsIn K mainGlobals "_law_pick" = some (some (.ref f14)))
    (l14 : K.lookup f14 = some ⟨oc14, od14, .func (PySem.W.fnOf "_law_pick" "_law_pick" (defArgs sPick) (defBody sPick) (defScope sPick) .none kV14 dc14 pm14 an14 cd14 ct14), sl14⟩)
    (c14 : PySem.W.codeIn K cd14 "_law_pick" = true)
    (k14 : PySem.W.keepIn K (.ref f14) = true)
    (a15 : PySem.W.nsIn K mainGlobals "_law_name" = some (some (.ref f15)))
    (l15 : K.lookup f15 = some ⟨oc15, od15, .func (PySem.W.fnOf "_law_name" "_law_name" (defArgs sName) (defBody sName) (defScope sName) .none kV15 dc15 pm15 an15 cd15 ct15), sl15⟩)
    (c15 : PySem.W.codeIn K cd15 "_law_name" = true)
    (k15 : PySem.W.keepIn K (.ref f15) = true)
    (a16 : PySem.W.nsIn K mainGlobals "_law_names" = some (some (.ref f16)))
    (l16 : K.lookup f16 = some ⟨oc16, od16, .func (PySem.W.fnOf "_law_names" "_law_names" (defArgs sNames) (defBody sNames) (defScope sNames) .none kV16 dc16 pm16 an16 cd16 ct16), sl16⟩)
    (c16 : PySem.W.codeIn K cd16 "_law_names" = true)
    (k16 : PySem.W.keepIn K (.ref f16) = true)
    (a17 : PySem.W.nsIn K mainGlobals "_law_row_of" = some (some (.ref f17)))
    (l17 : K.lookup f17 = some ⟨oc17, od17, .func (PySem.W.fnOf "_law_row_of" "_law_row_of" (defArgs sRowOf) (defBody sRowOf) (defScope sRowOf) .none kV17 dc17 pm17 an17 cd17 ct17), sl17⟩)
    (c17 : PySem.W.codeIn K cd17 "_law_row_of" = true)
    (k17 : PySem.W.keepIn K (.ref f17) = true)
    (a18 : PySem.W.nsIn K mainGlobals "_law_same" = some (some (.ref f18)))
    (l18 : K.lookup f18 = some ⟨oc18, od18, .func (PySem.W.fnOf "_law_same" "_law_same" (defArgs sSame) (defBody sSame) (defScope sSame) .none kV18 dc18 pm18 an18 cd18 ct18), sl18⟩)
    (c18 : PySem.W.codeIn K cd18 "_law_same" = true)
    (k18 : PySem.W.keepIn K (.ref f18) = true)
    (a19 : PySem.W.nsIn K mainGlobals "_law_tree" = some (some (.ref f19)))
    (l19 : K.lookup f19 = some ⟨oc19, od19, .func (PySem.W.fnOf "_law_tree" "_law_tree" (defArgs sTree) (defBody sTree) (defScope sTree) .none kV19 dc19 pm19 an19 cd19 ct19), sl19⟩)
    (c19 : PySem.W.codeIn K cd19 "_law_tree" = true)
    (k19 : PySem.W.keepIn K (.ref f19) = true)
    (a20 : PySem.W.nsIn K mainGlobals "_law_as" = some (some (.ref f20)))
    (l20 : K.lookup f20 = some ⟨oc20, od20, .func (PySem.W.fnOf "_law_as" "_law_as" (defArgs sAs) (defBody sAs) (defScope sAs) .none kV20 dc20 pm20 an20 cd20 ct20), sl20⟩)
    (c20 : PySem.W.codeIn K cd20 "_law_as" = true)
    (k20 : PySem.W.keepIn K (.ref f20) = true)
    (a21 : PySem.W.nsIn K mainGlobals "_law_given_as" = some (some (.ref f21)))
    (l21 : K.lookup f21 = some ⟨oc21, od21, .func (PySem.W.fnOf "_law_given_as" "_law_given_as" (defArgs sGivenAs) (defBody sGivenAs) (defScope sGivenAs) .none kV21 dc21 pm21 an21 cd21 ct21), sl21⟩)
    (c21 : PySem.W.codeIn K cd21 "_law_given_as" = true)
    (k21 : PySem.W.keepIn K (.ref f21) = true)
    (a22 : PySem.W.nsIn K mainGlobals "_law_table" = some (some (.ref f22)))
    (l22 : K.lookup f22 = some ⟨oc22, od22, .func (PySem.W.fnOf "_law_table" "_law_table" (defArgs sTable) (defBody sTable) (defScope sTable) .none kV22 dc22 pm22 an22 cd22 ct22), sl22⟩)
    (c22 : PySem.W.codeIn K cd22 "_law_table" = true)
    (k22 : PySem.W.keepIn K (.ref f22) = true)
    (a23 : PySem.W.nsIn K mainGlobals "_law_stands" = some (some (.ref f23)))
    (l23 : K.lookup f23 = some ⟨oc23, od23, .func (PySem.W.fnOf "_law_stands" "_law_stands" (defArgs sStands) (defBody sStands) (defScope sStands) .none kV23 dc23 pm23 an23 cd23 ct23), sl23⟩)
    (c23 : PySem.W.codeIn K cd23 "_law_stands" = true)
    (k23 : PySem.W.keepIn K (.ref f23) = true)
    (a24 : PySem.W.nsIn K mainGlobals "_law_checked" = some (some (.ref f24)))
    (l24 : K.lookup f24 = some ⟨oc24, od24, .func (PySem.W.fnOf "_law_checked" "_law_checked" (defArgs sChecked) (defBody sChecked) (defScope sChecked) .none kV24 dc24 pm24 an24 cd24 ct24), sl24⟩)
    (c24 : PySem.W.codeIn K cd24 "_law_checked" = true)
    (k24 : PySem.W.keepIn K (.ref f24) = true)
    (a25 : PySem.W.nsIn K mainGlobals "law" = some (some (.ref f25)))
    (l25 : K.lookup f25 = some ⟨oc25, od25, .func (PySem.W.fnOf "law" "law" (defArgs sLaw) (defBody sLaw) (defScope sLaw) .none kV25 dc25 pm25 an25 cd25 ct25), sl25⟩)
    (c25 : PySem.W.codeIn K cd25 "law" = true)
    (k25 : PySem.W.keepIn K (.ref f25) = true) :
    ∃ fd : FuncData, (∀ (s : Shared) (v : Value), BindsTo s fd ⟨[v], []⟩ [("_law_script", v)]) ∧ ∀ base : Heap, K.In base → base.Ns mainGlobals mg → FnOk P w K mg base CX0 10 fa fd ["_law_script"] (spLaw K) := by
  have e := hfa.symm.trans (PySem.W.mg_of X G a25)
  cases e
  have te := te_of eC iC tC sC
  have I : InvTxt P K mg C fI cc cda := { gC := PySem.W.mg_of X G aC, sup := PySem.W.mg_none_of X G zs, cls := ⟨nm, q, N, bs, bm, sn, sub, ab, col, dd, m0, m1, m2, m3, m5, xC, hbm⟩, sa := sa, noN := nb, iC := a0, tC := t0, kC := kC, exC := eC, tyC := tC, veC := vC, own := oC, te := te, up := up, opq := opq, fn := ⟨oc0, od0, dc0, pm0, an0, ct0, sl0, l0, c0⟩, cell := ⟨cl, cld, csl, lcc⟩, code := ⟨ccl, cdd, vs, ccs, file, tf, lcd, hfi, hP⟩, top := tp }
  have T : ChkTxt P K mg C fI cc cda := ⟨I, ⟨tn, PySem.W.mg_of X G gn⟩, ⟨td, PySem.W.mg_of X G gd⟩⟩
  have B : Blt mg := { isi := PySem.W.mg_none_of X G z_isi, tup := PySem.W.mg_none_of X G z_tup, len := PySem.W.mg_none_of X G z_len, rev := PySem.W.mg_none_of X G z_rev, rng := PySem.W.mg_none_of X G z_rng, lst := PySem.W.mg_none_of X G z_lst, enu := PySem.W.mg_none_of X G z_enu, int := PySem.W.mg_none_of X G z_int, abs := PySem.W.mg_none_of X G z_abs, all := PySem.W.mg_none_of X G z_all, zip := PySem.W.mg_none_of X G z_zip, bool := PySem.W.mg_none_of X G z_bool, str := PySem.W.mg_none_of X G z_str }
  have F1 := fun_mk (st := sIsRow) l1 c1 k1
  have b1 := F1.binds (ps := ["value", "words"]) fun _ _ _ _ _ _ us hl => match us, hl with | [_, _], _ => rfl
  have m1_ := PySem.W.mg_of X G a1
  have F2 := fun_mk (st := sIsSq) l2 c2 k2
  have b2 := F2.binds (ps := ["value", "words"]) fun _ _ _ _ _ _ us hl => match us, hl with | [_, _], _ => rfl
  have m2_ := PySem.W.mg_of X G a2
  have F3 := fun_mk (st := sFits) l3 c3 k3
  have b3 := F3.binds (ps := ["words", "slots", "node"]) fun _ _ _ _ _ _ us hl => match us, hl with | [_, _, _], _ => rfl
  have m3_ := PySem.W.mg_of X G a3
  have F4 := fun_mk (st := sCheck) l4 c4 k4
  have b4 := F4.binds (ps := ["words", "slots", "value"]) fun _ _ _ _ _ _ us hl => match us, hl with | [_, _, _], _ => rfl
  have m4_ := PySem.W.mg_of X G a4
  have F5 := fun_mk (st := sWord) l5 c5 k5
  have b5 := F5.binds (ps := ["given", "slot"]) fun _ _ _ _ _ _ us hl => match us, hl with | [_, _], _ => rfl
  have m5_ := PySem.W.mg_of X G a5
  have F6 := fun_mk (st := sValue) l6 c6 k6
  have b6 := F6.binds (ps := ["words", "expr", "given"]) fun _ _ _ _ _ _ us hl => match us, hl with | [_, _, _], _ => rfl
  have m6_ := PySem.W.mg_of X G a6
  have F7 := fun_mk (st := sReads) l7 c7 k7
  have b7 := F7.binds (ps := ["expr"]) fun _ _ _ _ _ _ us hl => match us, hl with | [_], _ => rfl
  have m7_ := PySem.W.mg_of X G a7
  have F8 := fun_mk (st := sAll) l8 c8 k8
  have b8 := F8.binds (ps := ["words", "slots"]) fun _ _ _ _ _ _ us hl => match us, hl with | [_, _], _ => rfl
  have m8_ := PySem.W.mg_of X G a8
  have F9 := fun_mk (st := sDiff) l9 c9 k9
  have b9 := F9.binds (ps := ["words", "expr", "slots", "at"]) fun _ _ _ _ _ _ us hl => match us, hl with | [_, _, _, _], _ => rfl
  have m9_ := PySem.W.mg_of X G a9
  have F10 := fun_mk (st := sMat) l10 c10 k10
  have b10 := F10.binds (ps := ["words", "expr"]) fun _ _ _ _ _ _ us hl => match us, hl with | [_, _], _ => rfl
  have m10_ := PySem.W.mg_of X G a10
  have F11 := fun_mk (st := sUnl) l11 c11 k11
  have b11 := F11.binds (ps := ["words", "expr", "other"]) fun _ _ _ _ _ _ us hl => match us, hl with | [_, _, _], _ => rfl
  have m11_ := PySem.W.mg_of X G a11
  have F12 := fun_mk (st := sPool) l12 c12 k12
  have b12 := F12.binds (ps := ["_law_script"]) fun _ _ _ _ _ _ us hl => match us, hl with | [_], _ => rfl
  have m12_ := PySem.W.mg_of X G a12
  have F13 := fun_mk (st := sDraw) l13 c13 k13
  have b13 := F13.binds (ps := ["_law_pool_here", "_law_many"]) fun _ _ _ _ _ _ us hl => match us, hl with | [_, _], _ => rfl
  have m13_ := PySem.W.mg_of X G a13
  have F14 := fun_mk (st := sPick) l14 c14 k14
  have b14 := F14.binds (ps := ["_law_pool_here", "_law_items"]) fun _ _ _ _ _ _ us hl => match us, hl with | [_, _], _ => rfl
  have m14_ := PySem.W.mg_of X G a14
  have F15 := fun_mk (st := sName) l15 c15 k15
  have b15 := F15.binds (ps := ["_law_pool_here", "_law_taken"]) fun _ _ _ _ _ _ us hl => match us, hl with | [_, _], _ => rfl
  have m15_ := PySem.W.mg_of X G a15
  have F16 := fun_mk (st := sNames) l16 c16 k16
  have b16 := F16.binds (ps := ["_law_pool_here", "_law_count"]) fun _ _ _ _ _ _ us hl => match us, hl with | [_, _], _ => rfl
  have m16_ := PySem.W.mg_of X G a16
  have F17 := fun_mk (st := sRowOf) l17 c17 k17
  have b17 := F17.binds (ps := ["_law_pool_here", "_law_words"]) fun _ _ _ _ _ _ us hl => match us, hl with | [_, _], _ => rfl
  have m17_ := PySem.W.mg_of X G a17
  have F18 := fun_mk (st := sSame) l18 c18 k18
  have b18 := F18.binds (ps := ["_law_a", "_law_b"]) fun _ _ _ _ _ _ us hl => match us, hl with | [_, _], _ => rfl
  have m18_ := PySem.W.mg_of X G a18
  have F19 := fun_mk (st := sTree) l19 c19 k19
  have b19 := F19.binds (ps := ["_law_pool_here", "_law_words", "_law_slots", "_law_deep", "_law_room"]) fun _ _ _ _ _ _ us hl => match us, hl with | [_, _, _, _, _], _ => rfl
  have m19_ := PySem.W.mg_of X G a19
  have F20 := fun_mk (st := sAs) l20 c20 k20
  have b20 := F20.binds (ps := ["_law_tables", "_law_expr"]) fun _ _ _ _ _ _ us hl => match us, hl with | [_, _], _ => rfl
  have m20_ := PySem.W.mg_of X G a20
  have F21 := fun_mk (st := sGivenAs) l21 c21 k21
  have b21 := F21.binds (ps := ["_law_tables", "_law_given"]) fun _ _ _ _ _ _ us hl => match us, hl with | [_, _], _ => rfl
  have m21_ := PySem.W.mg_of X G a21
  have F22 := fun_mk (st := sTable) l22 c22 k22
  have b22 := F22.binds (ps := ["_law_pool_here", "_law_olds", "_law_way"]) fun _ _ _ _ _ _ us hl => match us, hl with | [_, _, _], _ => rfl
  have m22_ := PySem.W.mg_of X G a22
  have F23 := fun_mk (st := sStands) l23 c23 k23
  have b23 := F23.binds (ps := ["_law_words", "_law_slots", "_law_expr"]) fun _ _ _ _ _ _ us hl => match us, hl with | [_, _, _], _ => rfl
  have m23_ := PySem.W.mg_of X G a23
  have F24 := fun_mk (st := sChecked) l24 c24 k24
  have b24 := F24.binds (ps := ["_law_words", "_law_slots", "_law_expr"]) fun _ _ _ _ _ _ us hl => match us, hl with | [_, _, _], _ => rfl
  have m24_ := PySem.W.mg_of X G a24
  have F25 := fun_mk (st := sLaw) l25 c25 k25
  have b25 := F25.binds (ps := ["_law_script"]) fun _ _ _ _ _ _ us hl => match us, hl with | [_], _ => rfl
  have m25_ := PySem.W.mg_of X G a25
  refine ⟨PySem.W.fnOf "law" "law" (defArgs sLaw) (defBody sLaw) (defScope sLaw) .none kV25 dc25 pm25 an25 cd25 ct25, fun s v => .of_eq rfl, fun base _ _ => ?_⟩
  have G_row := ok_isRow (P := P) (w := w) (K := K) (mg := mg) (base := base) F1 B
  have G_sq := ok_isSq (P := P) (w := w) (K := K) (mg := mg) (base := base) F2 B G_row b1 k1 m1_
  have G_fits := ok_fits (P := P) (w := w) (K := K) (mg := mg) (base := base) F3 B G_row b1 k1 m1_ G_sq b2 k2 m2_
  have G_check := ok_check (P := P) (w := w) (K := K) (mg := mg) (base := base) F4 B T G_fits b3 k3 m3_
  have G_word := ok_word (P := P) (w := w) (K := K) (mg := mg) (base := base) F5
  have G_val := ok_value (P := P) (w := w) (K := K) (mg := mg) (base := base) F6 b6 k6 m6_ G_word b5 k5 m5_ 6
  have G_reads := ok_reads (P := P) (w := w) (K := K) (mg := mg) (base := base) F7 B
  have G_all := ok_all (P := P) (w := w) (K := K) (mg := mg) (base := base) F8
  have G_diff := ok_diff (P := P) (w := w) (K := K) (mg := mg) (base := base) F9 G_all b8 k8 m8_ G_val b6 k6 m6_
  have G_mat := ok_mat (P := P) (w := w) (K := K) (mg := mg) (base := base) F10 B G_reads b7 k7 m7_ G_diff b9 k9 m9_
  have G_unl := ok_unl (P := P) (w := w) (K := K) (mg := mg) (base := base) F11 B G_reads b7 k7 m7_ G_all b8 k8 m8_ G_val b6 k6 m6_
  have G_pool := ok_pool (P := P) (w := w) (K := K) (mg := mg) (base := base) F12 B
  have G_draw := ok_draw (P := P) (w := w) (K := K) (mg := mg) (base := base) F13 B
  have G_pick := ok_pick (P := P) (w := w) (K := K) (mg := mg) (base := base) F14 B G_draw b13 k13 m13_
  have G_name := ok_name (P := P) (w := w) (K := K) (mg := mg) (base := base) F15 B G_draw b13 k13 m13_
  have G_names := ok_names (P := P) (w := w) (K := K) (mg := mg) (base := base) F16 B G_name b15 k15 m15_
  have G_rowOf := ok_rowOf (P := P) (w := w) (K := K) (mg := mg) (base := base) F17 B G_pick b14 k14 m14_
  have G_same := ok_same (P := P) (w := w) (K := K) (mg := mg) (base := base) F18 b18 k18 m18_ B 3
  have G_tree := ok_tree (P := P) (w := w) (K := K) (mg := mg) (base := base) F19 b19 k19 m19_ B G_draw b13 k13 m13_ G_pick b14 k14 m14_ G_rowOf b17 k17 m17_ 6
  have G_as := ok_as (P := P) (w := w) (K := K) (mg := mg) (base := base) F20 b20 k20 m20_ B 6
  have G_giv := ok_givenAs (P := P) (w := w) (K := K) (mg := mg) (base := base) F21 B
  have G_table := ok_table (P := P) (w := w) (K := K) (mg := mg) (base := base) F22 B G_names b16 k16 m16_
  have G_std := ok_stands (P := P) (w := w) (K := K) (mg := mg) (base := base) F23 b23 k23 m23_ B 6
  have G_chk := ok_checked (P := P) (w := w) (K := K) (mg := mg) (base := base) F24 B T te G_check b4 k4 m4_
  exact ok_law F25 B ⟨⟨_, _, G_pool, b12, k12, m12_⟩⟩ ⟨⟨_, _, G_draw, b13, k13, m13_⟩⟩ ⟨⟨_, _, G_pick, b14, k14, m14_⟩⟩ ⟨⟨_, _, G_names, b16, k16, m16_⟩⟩ ⟨⟨_, _, G_tree, b19, k19, m19_⟩⟩ ⟨⟨_, _, G_table, b22, k22, m22_⟩⟩ ⟨⟨_, _, G_as, b20, k20, m20_⟩⟩ ⟨⟨_, _, G_giv, b21, k21, m21_⟩⟩ ⟨⟨_, _, G_chk, b24, k24, m24_⟩⟩ ⟨⟨_, _, G_std, b23, k23, m23_⟩⟩ ⟨⟨_, _, G_same, b18, k18, m18_⟩⟩ ⟨⟨_, _, G_val, b6, k6, m6_⟩⟩ ⟨⟨_, _, G_reads, b7, k7, m7_⟩⟩ ⟨⟨_, _, G_mat, b10, k10, m10_⟩⟩ ⟨⟨_, _, G_unl, b11, k11, m11_⟩⟩
end
theorem walk {l : PySem.W.OpenLaw} {q : Program} {loose : List Str} {XP : (Str → Option Value) → Heap → Prop} {YP : World → Heap → Prop} {d : DefRec} {K : Params → PySem.W.Frag} (hn : l.most = some 63) (hdf : d.params.defaults = [])
    (hY : ∀ (w : World) (h : Heap), YP w h → (K w.params).In h)
    (F : ∀ (w : World) (mg : Str → Option Value) (fa : Addr) (h : Heap), (K w.params).In h → h.Ns mainGlobals mg → mg d.name = some (.ref fa) →
      ∃ fd : FuncData, (∀ (s : Shared) (u : Value), BindsTo s fd ⟨[u], []⟩ [("_law_script", u)]) ∧ ∀ base : Heap, (K w.params).In base → base.Ns mainGlobals mg → FnOk l.prog w (K w.params) mg base CX0 10 fa fd ["_law_script"] (spLaw (K w.params))) :
    PySem.W.WalkO q loose XP YP l.row.toRowW d [] (fun f vs => PySem.call f vs) :=
  L2.walk_of (n := 63) (k := 10) (x := "_law_script") (CX := fun _ => CX0) (sp := fun w => spLaw (K w.params)) hn (by decide) hdf ⟨rfl, by decide, by decide⟩ hY F (fun _ _ a ns hl _ hS => ⟨a, ns, rfl, hS, hl, fun _ => rfl⟩) fun _ _ _ _ _ z => z
end K4
open PySem PySem.W PyProof.Rows
set_option maxRecDepth 100000 in
set_option maxHeartbeats 0 in
theorem PySem.Challenge.cw_onesession_k04_whole_words_renamed_holds : PySem.Challenge.rw_onesession_k04_whole_words_renamed.Holds := by
  w_on; o_law; k_head; (case hw => w_witness2)
  k_fill
  refine K4.walk (l := PySem.Challenge.rw_onesession_k04_whole_words_renamed) rfl rfl (fun w h Y => PySem.W.kIn_of Y) ?F
  case F =>
    intro w mg fa h KX G hmg
    refine' K4.all_mk KX G hmg ?aC ?xC ?hbm ?sa ?nb ?a0 ?t0 ?kC ?eC ?tC ?vC ?oC ?iC ?sC ?up ?opq ?l0 ?c0 ?lcc ?lcd ?hfi ?hP ?tp ?zs ?gn ?gd ?z_isi ?z_tup ?z_len ?z_rev ?z_rng ?z_lst ?z_enu ?z_int ?z_abs ?z_all ?z_zip ?z_bool ?z_str ?a1 ?l1 ?c1 ?k1 ?a2 ?l2 ?c2 ?k2 ?a3 ?l3 ?c3 ?k3 ?a4 ?l4 ?c4 ?k4 ?a5 ?l5 ?c5 ?k5 ?a6 ?l6 ?c6 ?k6 ?a7 ?l7 ?c7 ?k7 ?a8 ?l8 ?c8 ?k8 ?a9 ?l9 ?c9 ?k9 ?a10 ?l10 ?c10 ?k10 ?a11 ?l11 ?c11 ?k11 ?a12 ?l12 ?c12 ?k12 ?a13 ?l13 ?c13 ?k13 ?a14 ?l14 ?c14 ?k14 ?a15 ?l15 ?c15 ?k15 ?a16 ?l16 ?c16 ?k16 ?a17 ?l17 ?c17 ?k17 ?a18 ?l18 ?c18 ?k18 ?a19 ?l19 ?c19 ?k19 ?a20 ?l20 ?c20 ?k20 ?a21 ?l21 ?c21 ?k21 ?a22 ?l22 ?c22 ?k22 ?a23 ?l23 ?c23 ?k23 ?a24 ?l24 ?c24 ?k24 ?a25 ?l25 ?c25 ?k25
    (case aC => k_is)
    (case xC => k_is)
    (case hbm => decide +kernel)
    (case sa => k_is)
    (case nb => k_is)
    (case a0 => k_is)
    (case t0 => k_is)
    (case kC => k_is)
    (case eC => k_is)
    (case tC => k_is)
    (case vC => k_is)
    (case oC => k_is)
    (case iC => k_is)
    (case sC => first | rfl | k_is)
    (case up => ks_is)
    (case opq => k_is)
    (case l0 => k_is)
    (case c0 => k_is)
    (case lcc => k_is)
    (case lcd => k_is)
    (case hfi => rfl)
    (case hP => decide +kernel)
    (case tp => decide +kernel)
    (case zs => k_is)
    (case gn => k_is)
    (case gd => k_is)
    (case z_isi => k_is)
    (case z_tup => k_is)
    (case z_len => k_is)
    (case z_rev => k_is)
    (case z_rng => k_is)
    (case z_lst => k_is)
    (case z_enu => k_is)
    (case z_int => k_is)
    (case z_abs => k_is)
    (case z_all => k_is)
    (case z_zip => k_is)
    (case z_bool => k_is)
    (case z_str => k_is)
    (case a1 => k_is)
    (case l1 => k_is)
    (case c1 => k_is)
    (case k1 => k_is)
    (case a2 => k_is)
    (case l2 => k_is)
    (case c2 => k_is)
    (case k2 => k_is)
    (case a3 => k_is)
    (case l3 => k_is)
    (case c3 => k_is)
    (case k3 => k_is)
    (case a4 => k_is)
    (case l4 => k_is)
    (case c4 => k_is)
    (case k4 => k_is)
    (case a5 => k_is)
    (case l5 => k_is)
    (case c5 => k_is)
    (case k5 => k_is)
    (case a6 => k_is)
    (case l6 => k_is)
    (case c6 => k_is)
    (case k6 => k_is)
    (case a7 => k_is)
    (case l7 => k_is)
    (case c7 => k_is)
    (case k7 => k_is)
    (case a8 => k_is)
    (case l8 => k_is)
    (case c8 => k_is)
    (case k8 => k_is)
    (case a9 => k_is)
    (case l9 => k_is)
    (case c9 => k_is)
    (case k9 => k_is)
    (case a10 => k_is)
    (case l10 => k_is)
    (case c10 => k_is)
    (case k10 => k_is)
    (case a11 => k_is)
    (case l11 => k_is)
    (case c11 => k_is)
    (case k11 => k_is)
    (case a12 => k_is)
    (case l12 => k_is)
    (case c12 => k_is)
    (case k12 => k_is)
    (case a13 => k_is)
    (case l13 => k_is)
    (case c13 => k_is)
    (case k13 => k_is)
    (case a14 => k_is)
    (case l14 => k_is)
    (case c14 => k_is)
    (case k14 => k_is)
    (case a15 => k_is)
    (case l15 => k_is)
    (case c15 => k_is)
    (case k15 => k_is)
    (case a16 => k_is)
    (case l16 => k_is)
    (case c16 => k_is)
    (case k16 => k_is)
    (case a17 => k_is)
    (case l17 => k_is)
    (case c17 => k_is)
    (case k17 => k_is)
    (case a18 => k_is)
    (case l18 => k_is)
    (case c18 => k_is)
    (case k18 => k_is)
    (case a19 => k_is)
    (case l19 => k_is)
    (case c19 => k_is)
    (case k19 => k_is)
    (case a20 => k_is)
    (case l20 => k_is)
    (case c20 => k_is)
    (case k20 => k_is)
    (case a21 => k_is)
    (case l21 => k_is)
    (case c21 => k_is)
    (case k21 => k_is)
    (case a22 => k_is)
    (case l22 => k_is)
    (case c22 => k_is)
    (case k22 => k_is)
    (case a23 => k_is)
    (case l23 => k_is)
    (case c23 => k_is)
    (case k23 => k_is)
    (case a24 => k_is)
    (case l24 => k_is)
    (case c24 => k_is)
    (case k24 => k_is)
    (case a25 => k_is)
    (case l25 => k_is)
    (case c25 => k_is)
    (case k25 => k_is)
