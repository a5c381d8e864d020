import PyProof.Rows.All
import Wide.All
import OpenK.AllK
import Wide.FinOn
import HandS.ForMost
import HandS.Codes
import HandS.SortKw
import HandS.Style
import HandS.Conv
import KE.DataMinMax
import KE.SortData
import PyProof.ListStr
import PyProof.Rows.StrRev
import HandS.Sort
import PyProof.SumAny
import HandS.SetTxt0
import HandS.SetFor
import KE.KExcSuper
import KE.KFromBytes
import HandS.ForExc
import HandS.ExcField
import HandS.ExcIs
import HandS.TryMany
import HandS.Small
import HandS.Wide
import HandS.IsInst
import HandS.DictComp
import HandS.TupAny
import HandS.Deep
import KE.GoesEnum
import KE.GoesMore
import PyProof.DictUpdate
import PySem.Challenge.RW_struckpieces_k10_whole_free_texts
section
set_option autoImplicit false
/-! The plain law: free texts read by fronts of pieces (texts are lists of codes). No program in sight. -/
namespace FT
abbrev Tx := List Nat
/-- a graph: fronts, in order, each with its row of (letter, next front) -/
abbrev Gr := List (Tx × List (Nat × Tx))

section lists
variable {α : Type} [DecidableEq α]
theorem nodup_len : ∀ {l m : List α}, l.Nodup → (∀ x ∈ l, x ∈ m) → l.length ≤ m.length
  | [], _, _, _ => Nat.zero_le _
  | a :: l, m, hn, hs => by
    have ha : a ∈ m := hs a List.mem_cons_self
    have h1 : l.length ≤ (m.erase a).length := by
      refine nodup_len (List.nodup_cons.mp hn).2 fun x hx => ?_
      have ne : x ≠ a := fun e => (List.nodup_cons.mp hn).1 (e ▸ hx)
      exact (List.mem_erase_of_ne ne).mpr (hs x (List.mem_cons_of_mem _ hx))
    rw [List.length_erase_of_mem ha] at h1
    have : 0 < m.length := List.length_pos_of_mem ha
    simp only [List.length_cons]
    omega
end lists

/-! ### association lists -/
section assoc
variable {κ β : Type} [DecidableEq κ]
def aget (l : List (κ × β)) (k : κ) : Option β := (l.find? fun p => decide (p.1 = k)).map (·.2)
def aput (l : List (κ × β)) (k : κ) (v : β) : List (κ × β) :=
  if (l.any fun p => decide (p.1 = k)) = true then l.map (fun p => if p.1 = k then (p.1, v) else p) else l ++ [(k, v)]
theorem aget_cons (p : κ × β) (l : List (κ × β)) (k : κ) : aget (p :: l) k = if p.1 = k then some p.2 else aget l k := by
  by_cases h : p.1 = k <;> simp [aget, List.find?_cons, h]
theorem aget_some_mem {l : List (κ × β)} {k : κ} {v : β} (h : aget l k = some v) : (k, v) ∈ l := by
  induction l with
  | nil => simp [aget] at h
  | cons p l ih =>
    rw [aget_cons] at h
    by_cases e : p.1 = k
    · rw [if_pos e] at h
      cases h
      subst e
      exact List.mem_cons_self
    · rw [if_neg e] at h
      exact List.mem_cons_of_mem _ (ih h)
theorem aget_none {l : List (κ × β)} {k : κ} : aget l k = none ↔ k ∉ l.map (·.1) := by
  induction l with
  | nil => simp [aget]
  | cons p l ih =>
    rw [aget_cons]
    by_cases e : p.1 = k
    · simp [e]
    · simp [e, ih, Ne.symm e]
theorem aget_isSome {l : List (κ × β)} {k : κ} : (∃ v, aget l k = some v) ↔ k ∈ l.map (·.1) := by
  cases h : aget l k with
  | none =>
    have := aget_none.mp h
    simp only [reduceCtorEq, exists_false, false_iff]
    exact this
  | some v =>
    have := List.mem_map_of_mem (f := (·.1)) (aget_some_mem h)
    simp only [Option.some.injEq, exists_eq', true_iff]
    exact this
theorem aget_mem {l : List (κ × β)} (hn : (l.map (·.1)).Nodup) {k : κ} {v : β} (h : (k, v) ∈ l) : aget l k = some v := by
  induction l with
  | nil => cases h
  | cons p l ih =>
    rw [aget_cons]
    rw [List.map_cons, List.nodup_cons] at hn
    rcases List.mem_cons.mp h with e | h
    · subst e; simp
    · have : p.1 ≠ k := fun e => hn.1 (e ▸ List.mem_map_of_mem (f := (·.1)) h)
      rw [if_neg this]
      exact ih hn.2 h
theorem aget_append {l m : List (κ × β)} {k : κ} : aget (l ++ m) k = (aget l k).or (aget m k) := by
  induction l with
  | nil => simp [aget]
  | cons p l ih =>
    rw [List.cons_append, aget_cons, aget_cons, ih]
    split <;> simp
theorem any_iff {l : List (κ × β)} {k : κ} : (l.any fun p => decide (p.1 = k)) = true ↔ k ∈ l.map (·.1) := by
  simp only [List.any_eq_true, decide_eq_true_eq, List.mem_map]
theorem aput_new {l : List (κ × β)} {k : κ} {v : β} (h : k ∉ l.map (·.1)) : aput l k v = l ++ [(k, v)] := by
  unfold aput
  rw [if_neg fun z => h (any_iff.mp z)]
theorem aput_keys_mem {l : List (κ × β)} {k j : κ} {v : β} : j ∈ (aput l k v).map (·.1) ↔ j = k ∨ j ∈ l.map (·.1) := by
  unfold aput
  by_cases h : (l.any fun p => decide (p.1 = k)) = true
  · rw [if_pos h]
    have e : (l.map (fun p => if p.1 = k then (p.1, v) else p)).map (·.1) = l.map (·.1) := by
      rw [List.map_map]
      refine List.map_congr_left fun p _ => ?_
      simp only [Function.comp]
      split <;> rfl
    rw [e]
    constructor
    · exact .inr
    · rintro (rfl | h')
      · exact any_iff.mp h
      · exact h'
  · rw [if_neg h]
    simp [or_comm]
end assoc

/-! ### fronts -/
variable (P : List Tx) (own : List Nat)
/-- all fronts: the empty one and what a piece begins with, less than the whole -/
def fronts : List Tx := [] :: P.flatMap fun p => (List.range p.length).map fun i => p.take i
def blk (w : Tx) : Bool := P.any fun p => p.isSuffixOf w
def lsuf : Tx → Tx
  | [] => []
  | c :: w => if (c :: w) ∈ fronts P then c :: w else lsuf w
def succs (f : Tx) : List (Nat × Tx) := own.filterMap fun c => if blk P (f ++ [c]) = true then none else some (c, lsuf P (f ++ [c]))

theorem nil_front : ([] : Tx) ∈ fronts P := List.mem_cons_self
theorem mem_fronts {w : Tx} : w ∈ fronts P ↔ w = [] ∨ ∃ p ∈ P, ∃ i, i < p.length ∧ w = p.take i := by
  unfold fronts
  simp only [List.mem_cons, List.mem_flatMap, List.mem_map, List.mem_range]
  constructor
  · rintro (h | ⟨p, hp, i, hi, e⟩)
    · exact .inl h
    · exact .inr ⟨p, hp, i, hi, e.symm⟩
  · rintro (h | ⟨p, hp, i, hi, e⟩)
    · exact .inl h
    · exact .inr ⟨p, hp, i, hi, e.symm⟩
theorem lsuf_front : ∀ w : Tx, lsuf P w ∈ fronts P
  | [] => nil_front P
  | c :: w => by
    unfold lsuf
    split
    · assumption
    · exact lsuf_front w
theorem lsuf_suffix : ∀ w : Tx, lsuf P w <:+ w
  | [] => List.suffix_rfl
  | c :: w => by
    unfold lsuf
    split
    · exact List.suffix_rfl
    · exact (lsuf_suffix w).trans (List.suffix_cons c w)
theorem lsuf_longest : ∀ {w u : Tx}, u ∈ fronts P → u <:+ w → u <:+ lsuf P w
  | [], u, _, h => by simpa [lsuf] using h
  | c :: w, u, hu, h => by
    unfold lsuf
    split
    · exact h
    · rename_i hc
      rcases List.suffix_cons_iff.mp h with e | h
      · exact absurd (e ▸ hu) hc
      · exact lsuf_longest hu h
theorem lsuf_self {w : Tx} (h : w ∈ fronts P) : lsuf P w = w := by
  cases w with
  | nil => rfl
  | cons c w => unfold lsuf; rw [if_pos h]
theorem lsuf_step {c : Nat} {w : Tx} (h : (c :: w) ∉ fronts P) : lsuf P (c :: w) = lsuf P w := by
  conv => lhs; unfold lsuf
  rw [if_neg h]
theorem blk_iff {w : Tx} : blk P w = true ↔ ∃ p ∈ P, p <:+ w := by
  unfold blk
  simp only [List.any_eq_true, List.isSuffixOf_iff_suffix]
theorem mem_succs {f b : Tx} {c : Nat} : (c, b) ∈ succs P own f ↔ c ∈ own ∧ blk P (f ++ [c]) = false ∧ b = lsuf P (f ++ [c]) := by
  unfold succs
  rw [List.mem_filterMap]
  constructor
  · rintro ⟨d, hd, e⟩
    split at e
    · cases e
    · rename_i hb
      cases e
      exact ⟨hd, by simpa using hb, rfl⟩
  · rintro ⟨h1, h2, h3⟩
    exact ⟨c, h1, by rw [h2, h3]; rfl⟩

/-! ### reading a text -/
inductive Run : Tx → Tx → Prop
  | nil : Run [] []
  | snoc {w f b : Tx} {c : Nat} : Run w f → (c, b) ∈ succs P own f → Run (w ++ [c]) b
variable {P own}
theorem front_snoc {u : Tx} {c : Nat} (h : u ++ [c] ∈ fronts P) : u ∈ fronts P := by
  rcases (mem_fronts P).mp h with e | ⟨p, hp, i, hi, e⟩
  · simp at e
  · refine (mem_fronts P).mpr (.inr ⟨p, hp, u.length, ?_, ?_⟩)
    · have := congrArg List.length e
      simp only [List.length_append, List.length_singleton, List.length_take] at this
      omega
    · have hl := congrArg List.length e
      simp only [List.length_append, List.length_singleton, List.length_take] at hl
      have h2 := congrArg (List.take u.length) e
      rw [List.take_left, List.take_take, Nat.min_eq_left (by omega)] at h2
      exact h2
/-- what reading knows: the standing is the longest end that is a front, and no piece stands in the text -/
structure Known (P : List Tx) (own : List Nat) (w f : Tx) : Prop where
  suf : f <:+ w
  frt : f ∈ fronts P
  lng : ∀ u, u ∈ fronts P → u <:+ w → u <:+ f
  fre : ∀ p ∈ P, ¬ p <:+: w
  let_ : ∀ c ∈ w, c ∈ own
theorem Run.known (hP : ∀ p ∈ P, p ≠ []) {w f : Tx} (h : Run P own w f) : Known P own w f := by
  induction h with
  | nil =>
    refine ⟨List.suffix_rfl, nil_front P, fun u _ h => h, fun p hp h => ?_, fun _ h => nomatch h⟩
    exact hP p hp (List.infix_nil.mp h)
  | @snoc w f b c _ hs ih =>
    obtain ⟨ho, hb, rfl⟩ := (mem_succs P own).mp hs
    have sc : f ++ [c] <:+ w ++ [c] := by
      obtain ⟨t, e⟩ := ih.suf
      exact ⟨t, by rw [← List.append_assoc, e]⟩
    refine ⟨(lsuf_suffix P _).trans sc, lsuf_front P _, fun u hu h => ?_, fun p hp h => ?_, fun d hd => ?_⟩
    · refine lsuf_longest P hu ?_
      rcases List.suffix_concat_iff.mp h with e | ⟨t, e, ht⟩
      · rw [e]; exact List.nil_suffix
      · subst e
        obtain ⟨r, er⟩ := ih.lng t (front_snoc hu) ht
        exact ⟨r, by rw [← List.append_assoc, er]⟩
    · rcases List.infix_concat_iff.mp h with h | h
      · rcases List.suffix_concat_iff.mp h with e | ⟨t, e, ht⟩
        · exact hP p hp e
        · have ft : t ∈ fronts P := (mem_fronts P).mpr (.inr ⟨p, hp, t.length, by rw [e]; simp, by rw [e, List.take_left]⟩)
          obtain ⟨r, er⟩ := ih.lng t ft ht
          have : blk P (f ++ [c]) = true := (blk_iff P).mpr ⟨p, hp, r, by rw [e, ← List.append_assoc, er]⟩
          rw [this] at hb; cases hb
      · exact ih.fre p hp h
    · rcases List.mem_append.mp hd with h | h
      · exact ih.let_ d h
      · rw [List.mem_singleton.mp h]; exact ho

/-! ### the search for all fronts that are come to -/
variable (P own)
def stp (s : List Tx × Gr) : List Tx × Gr :=
  match s.1.getLast? with
  | none => s
  | some f => if f ∈ s.2.map (·.1) then (s.1.dropLast, s.2) else (s.1.dropLast ++ (succs P own f).map (·.2), s.2 ++ [(f, succs P own f)])
def Gone (s : List Tx × Gr) : Prop := ∃ n, Nat.repeat (stp P own) n ([[]], []) = s
def IsG (g : Gr) : Prop := Gone P own ([], g)
variable {P own}
theorem repeat_succ {α : Type} (f : α → α) (n : Nat) (a : α) : Nat.repeat f (n + 1) a = f (Nat.repeat f n a) := rfl
theorem Gone.start : Gone P own ([[]], []) := ⟨0, rfl⟩
theorem Gone.step {s : List Tx × Gr} (h : Gone P own s) : Gone P own (stp P own s) := by
  obtain ⟨n, e⟩ := h
  exact ⟨n + 1, by rw [repeat_succ, e]⟩
theorem Gone.old {w : List Tx} {f : Tx} {g : Gr} (h : Gone P own (w ++ [f], g)) (hf : f ∈ g.map (·.1)) : Gone P own (w, g) := by
  have := h.step
  unfold stp at this
  simp only [List.getLast?_concat, List.dropLast_concat, hf, if_true] at this
  exact this
theorem Gone.new {w : List Tx} {f : Tx} {g : Gr} (h : Gone P own (w ++ [f], g)) (hf : f ∉ g.map (·.1)) : Gone P own (w ++ (succs P own f).map (·.2), g ++ [(f, succs P own f)]) := by
  have := h.step
  unfold stp at this
  simp only [List.getLast?_concat, List.dropLast_concat, hf, if_false] at this
  exact this
theorem stp_end (g : Gr) : stp P own ([], g) = ([], g) := rfl
theorem repeat_end (g : Gr) : ∀ n, Nat.repeat (stp P own) n ([], g) = ([], g)
  | 0 => rfl
  | n + 1 => by rw [repeat_succ, repeat_end g n, stp_end]
theorem repeat_add {α : Type} (f : α → α) (m n : Nat) (a : α) : Nat.repeat f (m + n) a = Nat.repeat f m (Nat.repeat f n a) := by
  induction m with
  | zero => rw [Nat.zero_add]; rfl
  | succ m ih => rw [Nat.succ_add, repeat_succ, repeat_succ, ih]
/-- there is one graph -/
theorem IsG.one {g g' : Gr} (h : IsG P own g) (h' : IsG P own g') : g = g' := by
  obtain ⟨n, e⟩ := h
  obtain ⟨m, e'⟩ := h'
  have h1 := repeat_add (stp P own) m n ([[]], [])
  have h2 := repeat_add (stp P own) n m ([[]], [])
  rw [e, repeat_end] at h1
  rw [e', repeat_end, Nat.add_comm, h1] at h2
  exact (Prod.mk.inj h2).2

structure GInv (P : List Tx) (own : List Nat) (s : List Tx × Gr) : Prop where
  nd : (s.2.map (·.1)).Nodup
  row : ∀ f r, (f, r) ∈ s.2 → r = succs P own f
  frt : ∀ f, f ∈ s.2.map (·.1) ∨ f ∈ s.1 → f ∈ fronts P
  rch : ∀ f, f ∈ s.2.map (·.1) ∨ f ∈ s.1 → ∃ w, Run P own w f
  cls : ∀ f r c b, (f, r) ∈ s.2 → (c, b) ∈ r → b ∈ s.2.map (·.1) ∨ b ∈ s.1
  frs : [] ∈ s.2.map (·.1) ∨ [] ∈ s.1
theorem GInv.start : GInv P own ([[]], []) := by
  refine ⟨List.nodup_nil, fun _ _ h => (nomatch h), fun f h => ?_, fun f h => ?_, fun _ _ _ _ h => (nomatch h), .inr (List.mem_singleton.mpr rfl)⟩
  · rcases h with h | h
    · cases h
    · rw [List.mem_singleton.mp h]; exact nil_front P
  · rcases h with h | h
    · cases h
    · rw [List.mem_singleton.mp h]; exact ⟨[], .nil⟩
theorem GInv.step {s : List Tx × Gr} (I : GInv P own s) : GInv P own (stp P own s) := by
  obtain ⟨w, g⟩ := s
  rcases List.eq_nil_or_concat w with e | ⟨w', f, e⟩
  · subst e; exact I
  · rw [List.concat_eq_append] at e
    subst e
    unfold stp
    simp only [List.getLast?_concat, List.dropLast_concat]
    by_cases hf : f ∈ g.map (·.1)
    · rw [if_pos hf]
      refine ⟨I.nd, I.row, fun u h => I.frt u ?_, fun u h => I.rch u ?_, fun u r c b h1 h2 => ?_, ?_⟩
      · rcases h with h | h
        · exact .inl h
        · exact .inr (List.mem_append_left _ h)
      · rcases h with h | h
        · exact .inl h
        · exact .inr (List.mem_append_left _ h)
      · rcases I.cls u r c b h1 h2 with h | h
        · exact .inl h
        · rcases List.mem_append.mp h with h | h
          · exact .inr h
          · rw [List.mem_singleton.mp h]; exact .inl hf
      · rcases I.frs with h | h
        · exact .inl h
        · rcases List.mem_append.mp h with h | h
          · exact .inr h
          · rw [List.mem_singleton.mp h]; exact .inl hf
    · rw [if_neg hf]
      have fin : f ∈ w' ++ [f] := List.mem_append_right _ (List.mem_singleton.mpr rfl)
      have rf : ∃ t, Run P own t f := I.rch f (.inr fin)
      have key : ∀ u, u ∈ (g ++ [(f, succs P own f)]).map (·.1) ↔ u ∈ g.map (·.1) ∨ u = f := fun u => by simp
      refine ⟨?_, fun u r h => ?_, fun u h => ?_, fun u h => ?_, fun u r c b h1 h2 => ?_, ?_⟩
      · rw [List.map_append, List.nodup_append]
        refine ⟨I.nd, by simp, fun a ha b hb e => ?_⟩
        rw [List.map_singleton, List.mem_singleton] at hb
        subst hb; subst e; exact hf ha
      · rcases List.mem_append.mp h with h | h
        · exact I.row u r h
        · have := List.mem_singleton.mp h
          cases this; rfl
      · rcases h with h | h
        · rcases (key u).mp h with h | h
          · exact I.frt u (.inl h)
          · subst h; exact I.frt _ (.inr fin)
        · rcases List.mem_append.mp h with h | h
          · exact I.frt u (.inr (List.mem_append_left _ h))
          · obtain ⟨⟨c, b⟩, hm, rfl⟩ := List.mem_map.mp h
            rw [((mem_succs P own).mp hm).2.2]
            exact lsuf_front P _
      · rcases h with h | h
        · rcases (key u).mp h with h | h
          · exact I.rch u (.inl h)
          · subst h; exact rf
        · rcases List.mem_append.mp h with h | h
          · exact I.rch u (.inr (List.mem_append_left _ h))
          · obtain ⟨⟨c, b⟩, hm, rfl⟩ := List.mem_map.mp h
            obtain ⟨t, ht⟩ := rf
            exact ⟨_, .snoc ht hm⟩
      · rcases List.mem_append.mp h1 with h | h
        · rcases I.cls u r c b h h2 with h | h
          · exact .inl ((key b).mpr (.inl h))
          · rcases List.mem_append.mp h with h | h
            · exact .inr (List.mem_append_left _ h)
            · exact .inl ((key b).mpr (.inr (List.mem_singleton.mp h)))
        · have := List.mem_singleton.mp h
          cases this
          exact .inr (List.mem_append_right _ (List.mem_map.mpr ⟨(c, b), h2, rfl⟩))
      · rcases I.frs with h | h
        · exact .inl ((key _).mpr (.inl h))
        · rcases List.mem_append.mp h with h | h
          · exact .inr (List.mem_append_left _ h)
          · exact .inl ((key _).mpr (.inr (List.mem_singleton.mp h)))
theorem Gone.inv {s : List Tx × Gr} (h : Gone P own s) : GInv P own s := by
  obtain ⟨n, e⟩ := h
  subst e
  induction n with
  | zero => exact GInv.start
  | succ n ih => exact ih.step
/-- the search's measure -/
def gmeas (P : List Tx) (own : List Nat) (s : List Tx × Gr) : Nat := ((fronts P).length - s.2.length) * (own.length + 1) + s.1.length
theorem GInv.len {s : List Tx × Gr} (I : GInv P own s) : s.2.length ≤ (fronts P).length := by
  have := nodup_len I.nd fun x hx => I.frt x (.inl hx)
  simpa using this
theorem succs_len (f : Tx) : (succs P own f).length ≤ own.length := List.length_filterMap_le _ _
theorem gmeas_old {w : List Tx} {f : Tx} {g : Gr} : gmeas P own (w, g) < gmeas P own (w ++ [f], g) := by
  unfold gmeas
  simp
theorem gmeas_new {w : List Tx} {f : Tx} {g : Gr} (h : Gone P own (w ++ [f], g)) (hf : f ∉ g.map (·.1)) :
    gmeas P own (w ++ (succs P own f).map (·.2), g ++ [(f, succs P own f)]) < gmeas P own (w ++ [f], g) := by
  have hl := (h.new hf).inv.len
  have h2 := succs_len (P := P) (own := own) f
  unfold gmeas
  simp only [List.length_append, List.length_singleton, List.length_map] at hl ⊢
  obtain ⟨k, hk⟩ : ∃ k, (fronts P).length = g.length + 1 + k := ⟨_, (Nat.add_sub_of_le hl).symm⟩
  have e1 : (fronts P).length - (g.length + 1) = k := by omega
  have e2 : (fronts P).length - g.length = k + 1 := by omega
  rw [e1, e2, Nat.succ_mul]
  omega
/-- a graph that is whole -/
structure Whole (P : List Tx) (own : List Nat) (g : Gr) : Prop where
  nd : (g.map (·.1)).Nodup
  row : ∀ f r, (f, r) ∈ g → r = succs P own f
  rch : ∀ f, f ∈ g.map (·.1) → ∃ w, Run P own w f
  cls : ∀ f, f ∈ g.map (·.1) → ∀ c b, (c, b) ∈ succs P own f → b ∈ g.map (·.1)
  frs : [] ∈ g.map (·.1)
  len : g.length ≤ (fronts P).length
theorem IsG.whole {g : Gr} (h : IsG P own g) : Whole P own g := by
  have I := Gone.inv h
  refine ⟨I.nd, I.row, fun f hf => I.rch f (.inl hf), fun f hf c b hb => ?_, ?_, I.len⟩
  · obtain ⟨⟨f', r⟩, hm, rfl⟩ := List.mem_map.mp hf
    have e := I.row f' r hm
    rcases I.cls f' r c b hm (e ▸ hb) with h | h
    · exact h
    · cases h
  · rcases I.frs with h | h
    · exact h
    · cases h
theorem Whole.get {g : Gr} (W : Whole P own g) {f : Tx} (h : f ∈ g.map (·.1)) : aget g f = some (succs P own f) := by
  obtain ⟨⟨f', r⟩, hm, rfl⟩ := List.mem_map.mp h
  rw [aget_mem W.nd hm, W.row f' r hm]
theorem Whole.run {g : Gr} (W : Whole P own g) {w f : Tx} (h : Run P own w f) : f ∈ g.map (·.1) := by
  induction h with
  | nil => exact W.frs
  | snoc _ hs ih => exact W.cls _ ih _ _ hs
end FT
end
section
set_option autoImplicit false
namespace FT
/-! ### counts -/
def rowOf (g : Gr) (f : Tx) : List (Nat × Tx) := (aget g f).getD []
def bump (l : List (Tx × Int)) (b : Tx) (n : Int) : List (Tx × Int) := aput l b ((aget l b).getD 0 + n)
def crow (n : Int) (l : List (Tx × Int)) (r : List (Nat × Tx)) : List (Tx × Int) := r.foldl (fun a cb => bump a cb.2 n) l
def cstep (g : Gr) (ways : List (Tx × Int)) : List (Tx × Int) := ways.foldl (fun a fn => crow fn.2 a (rowOf g fn.1)) []
def cnt (g : Gr) (k : Nat) : List (Tx × Int) := Nat.repeat (cstep g) k [([], 1)]
def total (l : List (Tx × Int)) : Int := (l.map (·.2)).sum
def Rch (g : Gr) : Nat → Tx → Prop
  | 0, f => f = []
  | k + 1, b => ∃ f, Rch g k f ∧ ∃ c, (c, b) ∈ rowOf g f

def Pos (l : List (Tx × Int)) : Prop := ∀ p ∈ l, 0 < p.2
theorem aput_pos {l : List (Tx × Int)} {k : Tx} {v : Int} (h : Pos l) (hv : 0 < v) : Pos (aput l k v) := by
  unfold aput
  split
  · intro p hp
    obtain ⟨q, hq, rfl⟩ := List.mem_map.mp hp
    split
    · exact hv
    · exact h q hq
  · intro p hp
    rcases List.mem_append.mp hp with hp | hp
    · exact h p hp
    · rw [List.mem_singleton.mp hp]; exact hv
theorem bump_pos {l : List (Tx × Int)} {b : Tx} {n : Int} (h : Pos l) (hn : 0 < n) : Pos (bump l b n) := by
  refine aput_pos h ?_
  cases e : aget l b with
  | none => simpa using hn
  | some v =>
    have := h _ (aget_some_mem e)
    simp only [Option.getD_some]
    omega
theorem bump_keys {l : List (Tx × Int)} {b j : Tx} {n : Int} : j ∈ (bump l b n).map (·.1) ↔ j = b ∨ j ∈ l.map (·.1) := aput_keys_mem
theorem crow_pos {n : Int} (hn : 0 < n) : ∀ (r : List (Nat × Tx)) (l : List (Tx × Int)), Pos l → Pos (crow n l r)
  | [], _, h => h
  | cb :: r, l, h => crow_pos hn r (bump l cb.2 n) (bump_pos h hn)
theorem crow_keys {n : Int} {j : Tx} : ∀ (r : List (Nat × Tx)) (l : List (Tx × Int)), j ∈ (crow n l r).map (·.1) ↔ (∃ c, (c, j) ∈ r) ∨ j ∈ l.map (·.1)
  | [], l => by simp [crow]
  | cb :: r, l => by
    have ih := crow_keys (n := n) (j := j) r (bump l cb.2 n)
    show j ∈ (crow n (bump l cb.2 n) r).map (·.1) ↔ _
    rw [ih, bump_keys]
    obtain ⟨c, b⟩ := cb
    constructor
    · rintro (⟨d, h⟩ | h | h)
      · exact .inl ⟨d, List.mem_cons_of_mem _ h⟩
      · exact .inl ⟨c, by rw [h]; exact List.mem_cons_self⟩
      · exact .inr h
    · rintro (⟨d, h⟩ | h)
      · rcases List.mem_cons.mp h with e | h
        · cases e; exact .inr (.inl rfl)
        · exact .inl ⟨d, h⟩
      · exact .inr (.inr h)
theorem cfold_pos {g : Gr} : ∀ (ways acc : List (Tx × Int)), Pos ways → Pos acc → Pos (ways.foldl (fun a fn => crow fn.2 a (rowOf g fn.1)) acc)
  | [], _, _, h => h
  | fn :: w, acc, hw, h => cfold_pos w _ (fun p hp => hw p (List.mem_cons_of_mem _ hp)) (crow_pos (hw fn List.mem_cons_self) _ _ h)
theorem cfold_keys {g : Gr} {j : Tx} : ∀ (ways acc : List (Tx × Int)), j ∈ (ways.foldl (fun a fn => crow fn.2 a (rowOf g fn.1)) acc).map (·.1) ↔ (∃ f ∈ ways.map (·.1), ∃ c, (c, j) ∈ rowOf g f) ∨ j ∈ acc.map (·.1)
  | [], acc => by simp
  | fn :: w, acc => by
    rw [List.foldl_cons, cfold_keys w, crow_keys]
    constructor
    · rintro (⟨f, h1, h2⟩ | h | h)
      · exact .inl ⟨f, by rw [List.map_cons]; exact List.mem_cons_of_mem _ h1, h2⟩
      · exact .inl ⟨fn.1, by rw [List.map_cons]; exact List.mem_cons_self, h⟩
      · exact .inr h
    · rintro (⟨f, h1, h2⟩ | h)
      · rw [List.map_cons] at h1
        rcases List.mem_cons.mp h1 with e | h1
        · subst e; exact .inr (.inl h2)
        · exact .inl ⟨f, h1, h2⟩
      · exact .inr (.inr h)
theorem cnt_pos (g : Gr) : ∀ k, Pos (cnt g k)
  | 0 => fun p hp => by rw [List.mem_singleton.mp hp]; decide
  | k + 1 => cfold_pos _ _ (cnt_pos g k) fun _ h => nomatch h
theorem cnt_keys (g : Gr) : ∀ (k : Nat) (f : Tx), f ∈ (cnt g k).map (·.1) ↔ Rch g k f
  | 0, f => by
    show f ∈ [[]] ↔ f = []
    exact List.mem_singleton
  | k + 1, f => by
    show f ∈ (cstep g (cnt g k)).map (·.1) ↔ _
    unfold cstep
    rw [cfold_keys]
    simp only [List.map_nil, List.not_mem_nil, or_false]
    constructor
    · rintro ⟨u, h1, h2⟩; exact ⟨u, (cnt_keys g k u).mp h1, h2⟩
    · rintro ⟨u, h1, h2⟩; exact ⟨u, (cnt_keys g k u).mpr h1, h2⟩
theorem sum_pos : ∀ {l : List (Tx × Int)}, Pos l → 0 ≤ total l ∧ (l ≠ [] → 0 < total l)
  | [], _ => ⟨Int.le_refl 0, fun h => absurd rfl h⟩
  | p :: l, h => by
    have h1 := h p List.mem_cons_self
    have h2 := (sum_pos (l := l) fun q hq => h q (List.mem_cons_of_mem _ hq)).1
    have e : total (p :: l) = p.2 + total l := by simp [total]
    rw [e]
    exact ⟨by omega, fun _ => by omega⟩
theorem total_pos (g : Gr) (k : Nat) : 0 < total (cnt g k) ↔ ∃ f, Rch g k f := by
  have h := sum_pos (cnt_pos g k)
  constructor
  · intro hp
    cases e : cnt g k with
    | nil => rw [e] at hp; exact absurd hp (by decide)
    | cons p l => exact ⟨p.1, (cnt_keys g k p.1).mp (by rw [e, List.map_cons]; exact List.mem_cons_self)⟩
  · rintro ⟨f, hf⟩
    refine h.2 fun e => ?_
    have := (cnt_keys g k f).mpr hf
    rw [e] at this; cases this
theorem total_nonneg (g : Gr) (k : Nat) : 0 ≤ total (cnt g k) := (sum_pos (cnt_pos g k)).1

/-! ### heights -/
def IsMax (v : Int) (l : List Int) : Prop := (l = [] ∧ v = 0) ∨ (v ∈ l ∧ ∀ y ∈ l, y ≤ v)
def hrow (F : List (Tx × Int)) (r : List (Nat × Tx)) : List Int := r.map fun cb => (aget F cb.2).getD 0 + 1
structure HPart (g : Gr) (F : List (Tx × Int)) : Prop where
  nd : (F.map (·.1)).Nodup
  sub : ∀ f, f ∈ F.map (·.1) → f ∈ g.map (·.1)
  all : ∀ f v, (f, v) ∈ F → ∀ c b, (c, b) ∈ rowOf g f → b ∈ F.map (·.1)
  val : ∀ f v, (f, v) ∈ F → IsMax v (hrow F (rowOf g f))
structure Hts (g : Gr) (F : List (Tx × Int)) : Prop extends HPart g F where
  clo : ∀ f, f ∈ g.map (·.1) → f ∉ F.map (·.1) → ∃ c b, (c, b) ∈ rowOf g f ∧ b ∉ F.map (·.1)
theorem HPart.nil (g : Gr) : HPart g [] := ⟨List.nodup_nil, fun _ h => (nomatch h), fun _ _ h => (nomatch h), fun _ _ h => (nomatch h)⟩
theorem HPart.add {g : Gr} {F : List (Tx × Int)} (h : HPart g F) {f : Tx} {v : Int} (hg : f ∈ g.map (·.1)) (hf : f ∉ F.map (·.1)) (ha : ∀ c b, (c, b) ∈ rowOf g f → b ∈ F.map (·.1)) (hv : IsMax v (hrow F (rowOf g f))) :
    HPart g (F ++ [(f, v)]) := by
  have get : ∀ b, b ∈ F.map (·.1) → aget (F ++ [(f, v)]) b = aget F b := fun b hb => by
    obtain ⟨u, hu⟩ := aget_isSome.mpr hb
    rw [aget_append, hu]; rfl
  have row : ∀ r : List (Nat × Tx), (∀ c b, (c, b) ∈ r → b ∈ F.map (·.1)) → hrow (F ++ [(f, v)]) r = hrow F r := fun r hr => by
    unfold hrow
    refine List.map_congr_left fun cb h => ?_
    rw [get cb.2 (hr cb.1 cb.2 h)]
  have key : ∀ u, u ∈ (F ++ [(f, v)]).map (·.1) ↔ u ∈ F.map (·.1) ∨ u = f := fun u => by simp
  refine ⟨?_, fun u hu => ?_, fun u x hu c b hb => ?_, fun u x hu => ?_⟩
  · rw [List.map_append, List.nodup_append]
    refine ⟨h.nd, by simp, fun a ha' b hb e => ?_⟩
    rw [List.map_singleton, List.mem_singleton] at hb
    subst hb; subst e; exact hf ha'
  · rcases (key u).mp hu with hu | hu
    · exact h.sub u hu
    · rw [hu]; exact hg
  · refine (key b).mpr (.inl ?_)
    rcases List.mem_append.mp hu with hu | hu
    · exact h.all u x hu c b hb
    · cases List.mem_singleton.mp hu
      exact ha c b hb
  · rcases List.mem_append.mp hu with hu | hu
    · rw [row _ (h.all u x hu)]
      exact h.val u x hu
    · cases List.mem_singleton.mp hu
      rw [row _ ha]
      exact hv
section
variable {P : List Tx} {own : List Nat} {g : Gr} {F : List (Tx × Int)}
theorem Whole.row' (W : Whole P own g) {f : Tx} (h : f ∈ g.map (·.1)) : rowOf g f = succs P own f := by
  unfold rowOf
  rw [W.get h]; rfl
theorem Rch.key (W : Whole P own g) : ∀ {k : Nat} {f : Tx}, Rch g k f → f ∈ g.map (·.1)
  | 0, f, h => by
    have : f = [] := h
    rw [this]; exact W.frs
  | k + 1, b, ⟨f, h1, c, h2⟩ => by
    have hf := Rch.key W h1
    rw [W.row' hf] at h2
    exact W.cls f hf c b h2
theorem run_rch (W : Whole P own g) {w f : Tx} (h : Run P own w f) : Rch g w.length f := by
  induction h with
  | nil => rfl
  | @snoc w f b c hr hs ih =>
    rw [List.length_append, List.length_singleton]
    exact ⟨f, ih, c, by rw [W.row' (W.run hr)]; exact hs⟩
theorem Hts.get (h : HPart g F) {f : Tx} (hf : f ∈ F.map (·.1)) : ∃ v, aget F f = some v ∧ (f, v) ∈ F := by
  obtain ⟨v, hv⟩ := aget_isSome.mpr hf
  exact ⟨v, hv, aget_some_mem hv⟩
theorem least_of : ∀ (l : List (Tx × Int)), l ≠ [] → ∃ p ∈ l, ∀ q ∈ l, p.2 ≤ q.2 := by
  intro l
  induction l with
  | nil => intro h; exact absurd rfl h
  | cons a l ih =>
    intro _
    by_cases e : l = []
    · subst e; exact ⟨a, List.mem_cons_self, fun q hq => by rw [List.mem_singleton.mp hq]; exact Int.le_refl _⟩
    · obtain ⟨p, hp, hq⟩ := ih e
      by_cases c : a.2 ≤ p.2
      · refine ⟨a, List.mem_cons_self, fun q hm => ?_⟩
        rcases List.mem_cons.mp hm with e | hm
        · rw [e]; exact Int.le_refl _
        · exact Int.le_trans c (hq q hm)
      · refine ⟨p, List.mem_cons_of_mem _ hp, fun q hm => ?_⟩
        rcases List.mem_cons.mp hm with e | hm
        · rw [e]; omega
        · exact hq q hm
theorem HPart.pos (hF : HPart g F) {f : Tx} {v : Int} (h : (f, v) ∈ F) : 0 ≤ v := by
  obtain ⟨p, hp, hq⟩ := least_of F (List.ne_nil_of_mem h)
  refine Int.le_trans ?_ (hq _ h)
  rcases hF.val p.1 p.2 hp with ⟨_, e⟩ | ⟨h, _⟩
  · omega
  · obtain ⟨cb, h1, h2⟩ := List.mem_map.mp h
    obtain ⟨x, hx, hxm⟩ := Hts.get hF (hF.all p.1 p.2 hp cb.1 cb.2 h1)
    rw [hx] at h2
    have := hq _ hxm
    simp only [Option.getD_some] at h2 this
    omega
/-- from a front with a height: what can follow -/
theorem HPart.down (hF : HPart g F) {h : Int} (h0 : aget F [] = some h) : ∀ (k : Nat) (f : Tx), Rch g k f → ∃ v, aget F f = some v ∧ v + k ≤ h
  | 0, f, e => by
    have : f = [] := e
    subst this
    exact ⟨h, h0, by omega⟩
  | k + 1, b, ⟨f, h1, c, h2⟩ => by
    obtain ⟨v, hv, hk⟩ := HPart.down hF h0 k f h1
    have hm := aget_some_mem hv
    obtain ⟨u, hu, hum⟩ := Hts.get hF (hF.all f v hm c b h2)
    refine ⟨u, hu, ?_⟩
    have : u + 1 ∈ hrow F (rowOf g f) := List.mem_map.mpr ⟨(c, b), h2, by simp [hu]⟩
    rcases hF.val f v hm with ⟨e, _⟩ | ⟨_, hle⟩
    · rw [e] at this; cases this
    · have := hle _ this
      omega
theorem HPart.along (hF : HPart g F) {h : Int} (h0 : aget F [] = some h) : ∀ k : Nat, (k : Int) ≤ h → ∃ f, Rch g k f ∧ aget F f = some (h - k)
  | 0, _ => ⟨[], rfl, by rw [h0]; congr 1; omega⟩
  | k + 1, hk => by
    obtain ⟨f, h1, h2⟩ := HPart.along hF h0 k (by omega)
    have hm := aget_some_mem h2
    rcases hF.val f _ hm with ⟨_, e⟩ | ⟨hin, _⟩
    · omega
    · obtain ⟨⟨c, b⟩, hb, e⟩ := List.mem_map.mp hin
      obtain ⟨u, hu, _⟩ := Hts.get hF (hF.all f _ hm c b hb)
      refine ⟨b, ⟨f, h1, c, hb⟩, ?_⟩
      rw [hu] at e ⊢
      simp only [Option.getD_some] at e
      congr 1
      omega
theorem HPart.bound (hF : HPart g F) {h : Int} (h0 : aget F [] = some h) : h + 1 ≤ (g.length : Int) := by
  have hp := hF.pos (aget_some_mem h0)
  have hc : ∀ x ∈ (List.range (h.toNat + 1)).map (fun n : Nat => (n : Int)), x ∈ F.map (·.2) := fun x hx => by
    obtain ⟨n, hn, rfl⟩ := List.mem_map.mp hx
    have hn' := List.mem_range.mp hn
    obtain ⟨f, _, h2⟩ := hF.along h0 (h.toNat - n) (by omega)
    have hm := aget_some_mem h2
    have : (h - ((h.toNat - n : Nat) : Int)) = (n : Int) := by omega
    rw [this] at hm
    exact List.mem_map.mpr ⟨_, hm, rfl⟩
  have nd : ((List.range (h.toNat + 1)).map (fun n : Nat => (n : Int))).Nodup := by
    rw [List.nodup_iff_pairwise_ne, List.pairwise_map]
    exact (List.nodup_iff_pairwise_ne.mp List.nodup_range).imp fun h e => h (Int.ofNat.inj e)
  have h1 := nodup_len nd hc
  have h2 := nodup_len hF.nd hF.sub
  simp only [List.length_map, List.length_range] at h1 h2
  omega
theorem Hts.forever (hF : Hts g F) (W : Whole P own g) (h0 : [] ∉ F.map (·.1)) : ∀ k : Nat, ∃ f, Rch g k f ∧ f ∉ F.map (·.1)
  | 0 => ⟨[], rfl, h0⟩
  | k + 1 => by
    obtain ⟨f, h1, h2⟩ := Hts.forever hF W h0 k
    obtain ⟨c, b, h3, h4⟩ := hF.clo f (h1.key W) h2
    exact ⟨b, ⟨f, h1, c, h3⟩, h4⟩
/-- all fronts have a height just if the empty one has -/
theorem Hts.enough_iff (hF : Hts g F) (W : Whole P own g) : F.length = g.length ↔ [] ∈ F.map (·.1) := by
  constructor
  · intro e
    refine Classical.byContradiction fun hn => ?_
    have h1 : (([] : Tx) :: F.map (·.1)).Nodup := List.nodup_cons.mpr ⟨hn, hF.nd⟩
    have h2 := nodup_len h1 (m := g.map (·.1)) fun x hx => by
      rcases List.mem_cons.mp hx with e | hx
      · rw [e]; exact W.frs
      · exact hF.sub x hx
    simp only [List.length_cons, List.length_map] at h2
    omega
  · intro h
    have all : ∀ {w f : Tx}, Run P own w f → f ∈ F.map (·.1) := fun hr => by
      induction hr with
      | nil => exact h
      | @snoc w f b c hr hs ih =>
        obtain ⟨v, hv, hm⟩ := Hts.get hF.toHPart ih
        exact hF.all f v hm c b (by rw [W.row' (W.run hr)]; exact hs)
    have h1 := nodup_len hF.nd hF.sub
    have h2 := nodup_len W.nd (m := F.map (·.1)) fun f hf => by
      obtain ⟨w, hr⟩ := W.rch f hf
      exact all hr
    simp only [List.length_map] at h1 h2
    omega
theorem Hts.reach_iff (hF : Hts g F) {h : Int} (h0 : aget F [] = some h) (k : Nat) : (∃ f, Rch g k f) ↔ (k : Int) ≤ h := by
  constructor
  · rintro ⟨f, hf⟩
    obtain ⟨v, hv, hk⟩ := hF.down h0 k f hf
    have := hF.pos (aget_some_mem hv)
    omega
  · intro hk
    obtain ⟨f, hf, _⟩ := hF.along h0 k hk
    exact ⟨f, hf⟩
/-- enough, by the law's own count -/
theorem Hts.count_iff (hF : Hts g F) (W : Whole P own g) : F.length = g.length ↔ ¬ 0 < total (cnt g (g.length + 1)) := by
  rw [hF.enough_iff W, total_pos]
  constructor
  · intro h
    obtain ⟨v, hv, _⟩ := Hts.get hF.toHPart h
    rw [hF.reach_iff hv]
    have := hF.bound hv
    omega
  · intro h
    refine Classical.byContradiction fun hn => h ?_
    obtain ⟨f, hf, _⟩ := hF.forever W hn (g.length + 1)
    exact ⟨f, hf⟩
theorem Hts.top (hF : Hts g F) (W : Whole P own g) (he : F.length = g.length) : ∃ h : Int, aget F [] = some h ∧ 0 ≤ h ∧ h ≤ g.length ∧ ∀ k : Nat, total (cnt g k) = 0 ↔ h < (k : Int) := by
  obtain ⟨h, h0, hm⟩ := Hts.get hF.toHPart ((hF.enough_iff W).mp he)
  have hb := hF.bound h0
  refine ⟨h, h0, hF.pos hm, by omega, fun k => ?_⟩
  have h1 := hF.reach_iff h0 k
  have h2 := total_pos g k
  have h3 := total_nonneg g k
  rw [h1] at h2
  omega
end

/-! ### the fact of free texts -/
section
variable {P : List Tx} {own : List Nat} {g : Gr} {F : List (Tx × Int)}
theorem suffix_replicate {c : Nat} : ∀ {k : Nat} {u : Tx}, u <:+ List.replicate k c → u = List.replicate u.length c := fun {k u} h => by
  obtain ⟨t, e⟩ := h
  refine List.eq_replicate_iff.mpr ⟨rfl, fun b hb => ?_⟩
  have : b ∈ List.replicate k c := by rw [← e]; exact List.mem_append_right _ hb
  exact (List.mem_replicate.mp this).2
theorem Whole.power (W : Whole P own g) (hF : Hts g F) (he : F.length = g.length) {c : Nat} (hc : c ∈ own) : ∃ p ∈ P, p = List.replicate p.length c := by
  refine Classical.byContradiction fun hn => ?_
  have hn' : ∀ p ∈ P, p ≠ List.replicate p.length c := fun p hp e => hn ⟨p, hp, e⟩
  have all : ∀ k : Nat, ∃ f, Run P own (List.replicate k c) f ∧ f = List.replicate f.length c := by
    intro k
    induction k with
    | zero => exact ⟨[], .nil, rfl⟩
    | succ k ih =>
      obtain ⟨f, hr, hf⟩ := ih
      have ef : f ++ [c] = List.replicate (f.length + 1) c := by rw [List.replicate_succ', ← hf]
      have hb : blk P (f ++ [c]) = false := by
        cases e : blk P (f ++ [c]) with
        | false => rfl
        | true =>
          obtain ⟨p, hp, hs⟩ := (blk_iff P).mp e
          rw [ef] at hs
          exact absurd (suffix_replicate hs) (hn' p hp)
      refine ⟨lsuf P (f ++ [c]), ?_, ?_⟩
      · rw [List.replicate_succ']
        exact .snoc hr ((mem_succs P own).mpr ⟨hc, hb, rfl⟩)
      · have hs := lsuf_suffix P (f ++ [c])
        rw [ef] at hs ⊢
        exact suffix_replicate hs
  obtain ⟨f, hr, _⟩ := all (g.length + 1)
  have h1 := run_rch W hr
  rw [List.length_replicate] at h1
  exact (hF.count_iff W).mp he ((total_pos g _).mpr ⟨f, h1⟩)
end

/-! ### the list of all free texts -/
def latr (g : Gr) (l : List (Tx × Tx)) : List (Tx × Tx) := l.flatMap fun tf => (rowOf g tf.2).map fun cb => (tf.1 ++ [cb.1], cb.2)
def lay (g : Gr) (k : Nat) : List (Tx × Tx) := Nat.repeat (latr g) k [([], [])]
def alls (g : Gr) : Nat → List Tx
  | 0 => []
  | k + 1 => alls g k ++ (lay g k).map (·.1)
theorem lay_succ (g : Gr) (k : Nat) : lay g (k + 1) = latr g (lay g k) := rfl
theorem lay_end {g : Gr} {k : Nat} (h : lay g k = []) : ∀ n, lay g (k + n) = []
  | 0 => h
  | n + 1 => by rw [← Nat.add_assoc, lay_succ, lay_end h n]; rfl
theorem alls_end {g : Gr} {k : Nat} (h : lay g k = []) : ∀ n, alls g (k + n) = alls g k
  | 0 => rfl
  | n + 1 => by
    rw [← Nat.add_assoc]
    show alls g (k + n) ++ (lay g (k + n)).map (·.1) = _
    rw [lay_end h n, alls_end h n]
    simp
theorem alls_mono (g : Gr) (k : Nat) : ∀ n, (alls g k).length ≤ (alls g (k + n)).length
  | 0 => Nat.le_refl _
  | n + 1 => by
    rw [← Nat.add_assoc]
    show _ ≤ (alls g (k + n) ++ (lay g (k + n)).map (·.1)).length
    rw [List.length_append]
    exact Nat.le_trans (alls_mono g k n) (Nat.le_add_right _ _)
/-- what both tell: all of them, or that there are more than 3000 -/
def FreeRes (g : Gr) : Option (List Tx) → Prop
  | none => ∃ k, 3000 < (alls g k).length
  | some l => ∃ k, lay g k = [] ∧ l = alls g k ∧ l.length ≤ 3000
theorem FreeRes.one {g : Gr} {a b : Option (List Tx)} (ha : FreeRes g a) (hb : FreeRes g b) : a = b := by
  have mix : ∀ l, FreeRes g (some l) → ¬ FreeRes g none := by
    rintro l ⟨k, h1, h2, h3⟩ ⟨j, hj⟩
    have e : alls g (k + j) = alls g k := alls_end h1 j
    have m := alls_mono g j k
    rw [Nat.add_comm, e, ← h2] at m
    omega
  cases a with
  | none =>
    cases b with
    | none => rfl
    | some l => exact absurd ha (mix l hb)
  | some l =>
    cases b with
    | none => exact absurd hb (mix l ha)
    | some m =>
      obtain ⟨k, h1, h2, _⟩ := ha
      obtain ⟨j, g1, g2, _⟩ := hb
      have e1 := alls_end h1 j
      have e2 := alls_end g1 k
      rw [Nat.add_comm, e1] at e2
      rw [h2, g2, e2]
section
variable {P : List Tx} {own : List Nat} {g : Gr}
theorem lay_run (W : Whole P own g) : ∀ (k : Nat) (t f : Tx), (t, f) ∈ lay g k → Run P own t f ∧ t.length = k
  | 0, t, f, h => by
    cases List.mem_singleton.mp h
    exact ⟨.nil, rfl⟩
  | k + 1, t, f, h => by
    rw [lay_succ] at h
    obtain ⟨⟨t', f'⟩, h1, h2⟩ := List.mem_flatMap.mp h
    obtain ⟨⟨c, b⟩, h3, e⟩ := List.mem_map.mp h2
    cases e
    obtain ⟨hr, hl⟩ := lay_run W k t' f' h1
    simp only at h3
    rw [W.row' (W.run hr)] at h3
    exact ⟨.snoc hr h3, by rw [List.length_append, hl, List.length_singleton]⟩
theorem alls_free (W : Whole P own g) (hP : ∀ p ∈ P, p ≠ []) : ∀ (k : Nat) (t : Tx), t ∈ alls g k → (∀ p ∈ P, ¬ p <:+: t) ∧ t.length < k
  | 0, _, h => nomatch h
  | k + 1, t, h => by
    rcases List.mem_append.mp h with h | h
    · obtain ⟨h1, h2⟩ := alls_free W hP k t h
      exact ⟨h1, by omega⟩
    · obtain ⟨⟨t', f⟩, h1, rfl⟩ := List.mem_map.mp h
      obtain ⟨hr, hl⟩ := lay_run W k t' f h1
      exact ⟨(hr.known hP).fre, by simp only [hl]; omega⟩
end

/-! ### without end -/
inductive Pth (P : List Tx) (own : List Nat) (f : Tx) : Tx → Tx → Prop
  | nil : Pth P own f [] f
  | snoc {w b d : Tx} {c : Nat} : Pth P own f w b → (c, d) ∈ succs P own b → Pth P own f (w ++ [c]) d
section
variable {P : List Tx} {own : List Nat}
theorem Run.app {w f r b : Tx} (h : Run P own w f) (h2 : Pth P own f r b) : Run P own (w ++ r) b := by
  induction h2 with
  | nil => rw [List.append_nil]; exact h
  | snoc _ hs ih => rw [← List.append_assoc]; exact .snoc ih hs
theorem Run.inv {w b : Tx} {c : Nat} (h : Run P own (w ++ [c]) b) : ∃ f, Run P own w f ∧ (c, b) ∈ succs P own f := by
  generalize e : w ++ [c] = u at h
  cases h with
  | nil => simp at e
  | @snoc w' f b' c' hr hs =>
    obtain ⟨e1, e2⟩ := List.append_inj' e rfl
    cases e2; subst e1
    exact ⟨f, hr, hs⟩
theorem Run.cut (w : Tx) : ∀ (n : Nat) (r b : Tx), r.length = n → Run P own (w ++ r) b → ∃ f, Run P own w f ∧ Pth P own f r b
  | 0, r, b, hl, h => by
    rw [List.length_eq_zero_iff.mp hl, List.append_nil] at h
    rw [List.length_eq_zero_iff.mp hl]
    exact ⟨b, h, .nil⟩
  | n + 1, r, b, hl, h => by
    rcases List.eq_nil_or_concat r with e | ⟨r', c, e⟩
    · subst e; cases hl
    · rw [List.concat_eq_append] at e
      subst e
      rw [← List.append_assoc] at h
      obtain ⟨d, h1, h2⟩ := h.inv
      obtain ⟨f, h3, h4⟩ := Run.cut w n r' d (by simpa using hl) h1
      exact ⟨f, h3, .snoc h4 h2⟩
theorem Run.det (hP : ∀ p ∈ P, p ≠ []) {w f f' : Tx} (h : Run P own w f) (h' : Run P own w f') : f = f' := by
  have k := h.known hP
  have k' := h'.known hP
  exact (k'.lng f k.frt k.suf).eq_of_length_le (k.lng f' k'.frt k'.suf).length_le
def times (r : Tx) : Nat → Tx
  | 0 => []
  | n + 1 => times r n ++ r
theorem Run.round (hP : ∀ p ∈ P, p ≠ []) {u r f : Tx} (h1 : Run P own u f) (h2 : Run P own (u ++ r) f) : ∀ k, Run P own (u ++ times r k) f
  | 0 => by show Run P own (u ++ []) f; rw [List.append_nil]; exact h1
  | k + 1 => by
    obtain ⟨f', h3, h4⟩ := Run.cut u r.length r f rfl h2
    have e := h1.det hP h3
    subst e
    show Run P own (u ++ (times r k ++ r)) f
    rw [← List.append_assoc]
    exact (Run.round hP h1 h2 k).app h4
theorem times_len (r : Tx) : ∀ k, (times r k).length = k * r.length
  | 0 => by simp [times]
  | k + 1 => by rw [times, List.length_append, times_len r k, Nat.succ_mul]
end
end FT
end
section
set_option Elab.async false
set_option linter.all false
set_option maxRecDepth 100000
set_option maxHeartbeats 4000000
/-! rules that the hand layer lacks: list(text), min of texts, max(.., default=0), text[::-1], text * int, sum(d.values()) -/
namespace FTR
open PySem PySem.Spec PyProof.Rows L2
section
variable {X : Cx}
/-- the texts of one sign -/
abbrev sg (c : Nat) : V := .str ⟨#[c]⟩
theorem call_listTxt (calm : X.calm = true) : CallR X (.type "list") (fun vs H Q => ∃ z : Str, vs = [.str z] ∧ z.length ≤ sizeLine ∧ ∀ q, H q = none → Q (.ref q) (upd H q (.lst (z.cps.toList.map sg)))) := by
  intro pins s σ H vs us Q J r hw
  obtain ⟨z, rfl, hz, q⟩ := hw
  obtain ⟨u, rfl, ru⟩ := vals1 r
  obtain ⟨t, rfl⟩ := ru
  refine call_list_str (J.ok.hd calm) z t (fun hp tk acc cap kp new its => ?_) hz
  have e0 : acc.toList.length = z.cps.size := by rw [Array.length_toList]; exact its.1
  have ob : ObjOk X.prog X.w (upd H s.heap.objs.size (.lst (z.cps.toList.map sg))) hp s.heap.objs.size (.lst (z.cps.toList.map sg)) := by
    refine ⟨?_, acc.toList, cap, ?_, ?_⟩
    · rw [List.length_map, Array.length_toList]; exact hz
    · refine vals_of_at (by rw [List.length_map, Array.length_toList, e0]) fun j x w h1 h2 => ?_
      have g := its.2 j w (by rw [← Array.getElem?_toList]; exact h2)
      obtain ⟨c, t', hc, rfl⟩ := g
      rw [List.getElem?_map, Array.getElem?_toList, hc] at h1
      cases h1
      exact ⟨t', rfl⟩
    · rw [Array.toArray_toList]; exact new
  exact ⟨.ref s.heap.objs.size, _, J.laid (t' := tk) kp (Nat.le_refl _) ob, rfl, q _ (J.hok.fresh (Nat.le_refl _))⟩

/-- data of texts, of ints -/
theorem dp_strs (K : PySem.W.Frag) (H : Hp) : ∀ ys : List Str, DpAll K H (ys.map V.str) (ys.map PyData.str)
  | [] => .nil
  | y :: ys => .cons (.str y) (dp_strs K H ys)
theorem dp_ints (K : PySem.W.Frag) (H : Hp) : ∀ ys : List Int, DpAll K H (ys.map V.int) (ys.map PyData.int)
  | [] => .nil
  | y :: ys => .cons (.int y) (dp_ints K H ys)
theorem alike_strs (ys : List Str) : PySem.W.AlikeAll (ys.map PyData.str) := by
  refine ⟨fun x hx y hy => ?_, fun x hx e => ?_⟩
  · obtain ⟨a, _, rfl⟩ := List.mem_map.mp hx
    obtain ⟨b, _, rfl⟩ := List.mem_map.mp hy
    rfl
  · obtain ⟨a, _, rfl⟩ := List.mem_map.mp hx
    cases e
theorem alike_ints (ys : List Int) : PySem.W.AlikeAll (ys.map PyData.int) := by
  refine ⟨fun x hx y hy => ?_, fun x hx e => ?_⟩
  · obtain ⟨a, _, rfl⟩ := List.mem_map.mp hx
    obtain ⟨b, _, rfl⟩ := List.mem_map.mp hy
    rfl
  · obtain ⟨a, _, rfl⟩ := List.mem_map.mp hx
    cases e
theorem depth_strs : ∀ ys : List Str, PyData.depthAll (ys.map PyData.str) ≤ 1
  | [] => by decide
  | y :: ys => by
    have := depth_strs ys
    simp only [List.map_cons, PyData.depthAll, PyData.depth]
    omega
theorem depth_ints : ∀ ys : List Int, PyData.depthAll (ys.map PyData.int) ≤ 1
  | [] => by decide
  | y :: ys => by
    have := depth_ints ys
    simp only [List.map_cons, PyData.depthAll, PyData.depth]
    omega
/-- min of a list of texts: one of them -/
def rMinTx (K : PySem.W.Frag) : List V → Hp → VK → Prop := fun vs H Q => ∃ (a : Addr) (ys : List Str), vs = [.ref a] ∧ SqL K H a (ys.map V.str) ∧ ys ≠ [] ∧ ∀ m ∈ ys, Q (.str m) H
theorem cr_minTx (calm : X.calm = true) (room : X.A.units + 64 < cLine) : CallR X (.builtin "min") (rMinTx X.K) := by
  intro pins s σ H vs us Q J r hw
  obtain ⟨a, ys, rfl, hs, hne, q⟩ := hw
  obtain ⟨its, rv, hl, _⟩ := J.list hs
  rw [Vals.ref1 r]
  cases ys with
  | nil => exact absurd rfl hne
  | cons y ys =>
    obtain ⟨as, hr⟩ := Dp.readsAll J _ _ _ (dp_strs X.K H (y :: ys)) rv
    have hd := depth_strs (y :: ys)
    refine PySem.W.min_list_data (J.ok.hd calm) hl.isList (x := .str y) (xs := ys.map PyData.str) (by simpa using hr) (alike_strs (y :: ys)) (by have h2 : PyData.depthAll (PyData.str y :: ys.map PyData.str) ≤ 1 := hd; omega) fun i v hp tk bs hi _ kp => ?_
    obtain ⟨x, hx, rx⟩ : ∃ x, ((y :: ys).map V.str)[i]? = some x ∧ RelV x v := by
      have hi' : its[i]? = some v := by simpa using hi
      have hlt := (List.getElem?_eq_some_iff.mp hi').1
      have hlen := rv.length
      have hlt2 : i < ((y :: ys).map V.str).length := by omega
      obtain ⟨u, h1, h2⟩ := Vals.get rv (List.getElem?_eq_getElem hlt2)
      rw [hi'] at h1
      cases h1
      exact ⟨_, List.getElem?_eq_getElem hlt2, h2⟩
    rw [List.getElem?_map] at hx
    cases e : (y :: ys)[i]? with
    | none => rw [e] at hx; cases hx
    | some m =>
      rw [e] at hx
      cases hx
      exact ⟨_, H, J.kept kp, rx, q m (List.mem_of_getElem? e)⟩
/-- max(ns, default=d) of a list of ints -/
def rMaxDf (K : PySem.W.Frag) (d : Int) : List V → List V → Hp → VK → Prop := fun vs zs H Q => ∃ (a : Addr) (ns : List Int), vs = [.ref a] ∧ zs = [.int d] ∧ SqL K H a (ns.map V.int) ∧
  (ns = [] → Q (.int d) H) ∧ ∀ m ∈ ns, (∀ y ∈ ns, y ≤ m) → Q (.int m) H
theorem fold_max : ∀ (ns : List Int) (n : Int), ns.foldl max n ∈ n :: ns ∧ n ≤ ns.foldl max n ∧ ∀ y ∈ ns, y ≤ ns.foldl max n
  | [], n => ⟨List.mem_cons_self, Int.le_refl _, fun _ h => (nomatch h)⟩
  | a :: ns, n => by
    obtain ⟨h1, h2, h3⟩ := fold_max ns (max n a)
    rw [List.foldl_cons]
    have e1 : n ≤ max n a := Int.le_max_left _ _
    have e2 : a ≤ max n a := Int.le_max_right _ _
    refine ⟨?_, Int.le_trans e1 h2, fun y hy => ?_⟩
    · rcases List.mem_cons.mp h1 with h | h
      · rw [h]
        rcases Int.le_total n a with c | c
        · rw [Int.max_eq_right c]; exact List.mem_cons_of_mem _ List.mem_cons_self
        · rw [Int.max_eq_left c]; exact List.mem_cons_self
      · exact List.mem_cons_of_mem _ (List.mem_cons_of_mem _ h)
    · rcases List.mem_cons.mp hy with h | h
      · rw [h]; exact Int.le_trans e2 h2
      · exact h3 y h
theorem cr_maxDf {d : Int} (calm : X.calm = true) (room : X.A.units + 64 < cLine) : CallRK X (.builtin "max") [Str.ofString "default"] (rMaxDf X.K d) := by
  intro pins s σ H vs zs us ws Q J r rz hw
  obtain ⟨a, ns, rfl, rfl, hs, q0, q1⟩ := hw
  obtain ⟨its, rv, hl, _⟩ := J.list hs
  rw [Vals.ref1 r]
  obtain ⟨w1, rfl, e1⟩ := vals1 rz
  obtain ⟨t1, rfl⟩ := e1
  obtain ⟨as, hr⟩ := Dp.readsAll J _ _ _ (dp_ints X.K H ns) rv
  have hd := depth_ints ns
  refine PySem.W.max_list_default (J.ok.hd calm) hl.isList (xs := ns.map PyData.int) (by simpa using hr) (alike_ints ns) (by omega) (fun e hp tk kp => ?_) fun y ys i v hp tk bs e hi rd kp => ?_
  · exact ⟨.int d, H, J.kept kp, ⟨t1, rfl⟩, q0 (List.map_eq_nil_iff.mp e)⟩
  · cases ns with
    | nil => cases e
    | cons n ns =>
      rw [List.map_cons] at e
      injection e with e1 e2
      subst e1; subst e2
      rw [PySem.W.maxD_ints] at rd
      cases rd
      obtain ⟨h1, h2, h3⟩ := fold_max ns n
      refine ⟨.int (ns.foldl max n), H, J.kept kp, ⟨_, rfl⟩, q1 _ h1 fun y hy => ?_⟩
      rcases List.mem_cons.mp hy with h | h
      · rw [h]; exact h2
      · exact h3 y h

/-- a text taken so many times -/
theorem mul_tx (w : List Nat) (n : Nat) : Txt.mul (SX.S w) (n : Int) = SX.S (List.replicate n w).flatten := by
  have fold : ∀ (k : Nat) (acc : Array Nat), ((List.replicate k w.toArray).foldl (· ++ ·) acc).toList = acc.toList ++ (List.replicate k w).flatten := by
    intro k
    induction k with
    | zero => intro acc; simp
    | succ k ih =>
      intro acc
      rw [List.replicate_succ, List.foldl_cons, ih, List.replicate_succ, List.flatten_cons]
      simp
  unfold Txt.mul
  by_cases h0 : (n : Int) < 1
  · rw [if_pos h0]
    have : n = 0 := by omega
    subst this
    rfl
  · rw [if_neg h0]
    by_cases h1 : ((n : Int) == 1 || (SX.S w).length == 0) = true
    · rw [if_pos h1]
      rw [Bool.or_eq_true, beq_iff_eq, beq_iff_eq, SX.S_len] at h1
      rcases h1 with h | h
      · have : n = 1 := by omega
        subst this
        simp
      · have : w = [] := List.eq_nil_of_length_eq_zero h
        subst this
        simp
    · rw [if_neg h1]
      refine TL.ext_tl ?_
      have := fold n #[]
      rw [Int.toNat_natCast]
      show _ = (List.replicate n w).flatten
      rw [show ([] : List Nat) ++ (List.replicate n w).flatten = (List.replicate n w).flatten from rfl] at this
      exact this
theorem op_mulTx : OpR X (binaryOp .Mult) (fun x y H Q => ∃ (w : List Nat) (n : Nat), x = .str (SX.S w) ∧ y = .int (n : Int) ∧ w.length * n ≤ 1000000 ∧ n < 2 ^ 31 ∧ Q (.str (SX.S (List.replicate n w).flatten)) H) := by
  intro pins s σ H x y v u Q J rx ry hw
  obtain ⟨w, n, rfl, rfl, hz, hn, q⟩ := hw
  obtain ⟨t, rfl⟩ := rx
  obtain ⟨t', rfl⟩ := ry
  refine SB.mul ⟨?_, fun h1 _ => ?_, fun h1 _ => ?_⟩ fun t2 k => ?_
  · simp only [Bool.or_eq_false_iff, decide_eq_false_iff_not]
    omega
  · rw [SX.S_len]
    have hn1 : 0 < (n : Int) := by omega
    have h3 : (w.length : Int) * n ≤ 2 ^ 63 - 1 := by
      have : ((w.length * n : Nat) : Int) ≤ 1000000 := Int.ofNat_le.mpr hz
      rw [Int.natCast_mul] at this
      omega
    have h4 := (Int.le_ediv_iff_mul_le hn1).mpr h3
    omega
  · rw [SX.S_len, Int.toNat_natCast]
    unfold Builtin.Str.tooLong
    simp only [decide_eq_false_iff_not, sizeLine_eq]
    omega
  · rw [mul_tx]
    exact ⟨.str (SX.S (List.replicate n w).flatten), H, J.tok k, ⟨t2, rfl⟩, q⟩
end
end FTR
end
section
set_option Elab.async false
set_option linter.all false
set_option maxRecDepth 100000
set_option maxHeartbeats 4000000
/-! what the texts' operations say of lists of codes -/
namespace FTR
open PySem PySem.Spec PyProof.Rows L2
abbrev tx (w : List Nat) : V := .str (SX.S w)
theorem in_tx (x y : List Nat) : (!(Builtin.Str.occurrences (SX.S x) (SX.S y) 0 (SX.S x).length 1).isEmpty) = decide (y <:+: x) := by
  rw [Bool.eq_iff_iff, PySem.StrLaws.found_iff, decide_eq_true_eq]
  simp only [PySem.StrLaws.subAt_eq, SX.S_len, beq_iff_eq]
  constructor
  · rintro ⟨i, _, h⟩
    have h : (x.drop i).take y.length = y := h
    refine ⟨x.take i, (x.drop i).drop y.length, ?_⟩
    have e : y ++ (x.drop i).drop y.length = x.drop i := by
      conv => lhs; lhs; rw [← h]
      exact List.take_append_drop _ _
    rw [List.append_assoc, e, List.take_append_drop]
  · rintro ⟨a, b, h⟩
    refine ⟨a.length, ?_, ?_⟩
    · rw [← h]; simp only [List.length_append]; omega
    · show (x.drop a.length).take y.length = y
      rw [← h, List.append_assoc, List.drop_left, List.take_left]
theorem ends_tx (x y : List Nat) : Txt.endswith (SX.S x) (SX.S y) = y.isSuffixOf x := by
  rw [Bool.eq_iff_iff, List.isSuffixOf_iff_suffix]
  unfold Txt.endswith
  rw [Bool.and_eq_true, decide_eq_true_eq, PySem.StrLaws.subAt_eq, SX.S_len, SX.S_len, beq_iff_eq]
  constructor
  · rintro ⟨h1, h⟩
    have h : (x.drop (x.length - y.length)).take y.length = y := h
    rw [List.take_of_length_le (by rw [List.length_drop]; omega)] at h
    exact ⟨x.take (x.length - y.length), by
      conv => lhs; rhs; rw [← h]
      exact List.take_append_drop _ _⟩
  · rintro ⟨a, h⟩
    have e : x.length - y.length = a.length := by rw [← h]; simp
    refine ⟨by rw [← h]; simp, ?_⟩
    show (x.drop (x.length - y.length)).take y.length = y
    rw [e, ← h, List.drop_left, List.take_length]
theorem joinL_nil : ∀ ys : List (List Nat), TL.joinL [] ys = ys.flatten
  | [] => rfl
  | [p] => by simp [TL.joinL]
  | p :: q :: r => by
    rw [TL.joinL, joinL_nil (q :: r)]
    simp
theorem join_tx (ys : List (List Nat)) : Txt.join (SX.S []) (ys.map SX.S) = SX.S ys.flatten := by
  rw [SX.join_S, joinL_nil]
theorem len_sum (ys : List (List Nat)) : ((ys.map SX.S).map (·.length)).sum = ys.flatten.length := by
  rw [SX.lens]
  simp
theorem rev_list (w : List Nat) (u : Tok) : Txt.sliceBy (SX.S w) none none (-1, u) = SX.S w.reverse := by
  refine TL.ext_tl ?_
  refine (step_rev_list (SX.S w) u).trans ?_
  show (List.range (SX.S w).length).map (fun k => (SX.S w).cps.getD ((SX.S w).length - 1 - k) 0) = w.reverse
  rw [SX.S_len]
  apply List.ext_getElem
  · simp
  · intro i h1 h2
    have hi : i < w.length := by simpa using h1
    have hj : w.length - 1 - i < w.length := by omega
    rw [List.getElem_map, List.getElem_range, List.getElem_reverse]
    simp [Array.getD, hj]
section
variable {X : Cx}
/-- text[::-1] -/
def tRevTx (te : TE) : TE := fun σ H Q => te σ H fun x H1 => ∃ w : List Nat, x = tx w ∧ w.length ≤ sizeLine ∧ Q (tx w.reverse) H1
theorem pe_revTx {e : Expr} {te : TE} {k : Nat} {p1 p2 p3 pos : Pos} (pe : PE X e te) : PE X (.Subscript e (.Slice none none (some (.UnaryOp .USub (.Constant (.int 1) k p1) p2)) p3) pos) (tRevTx te) := by
  refine ⟨fun pins s0 σ H0 Q J hw => Subscript_ (thn (pe.run pins s0 σ H0 _ J hw) fun v s1 ⟨x, H1, J1, r1, q1⟩ => ?_)⟩
  obtain ⟨w, ex, hz, q⟩ := q1
  subst ex
  obtain ⟨t, rfl⟩ := r1
  have st : PO X (some (.UnaryOp .USub (.Constant (.int 1) k p1) p2)) (tPart (tUn (rU fun i => .int (-i)) (tC (.int 1)))) := po_some (pe_un un_neg pe_int)
  refine wpAny_Slice (thn (po_none.run pins s1 σ H1 (fun l H2 => l = none ∧ H2 = H1) J1 ⟨rfl, rfl⟩) fun a2 s2 ⟨l2, H2, J2, b2, c2, d2⟩ => ?_)
  subst c2 d2
  refine thn (po_none.run pins s2 σ H2 (fun l H3 => l = none ∧ H3 = H2) J2 ⟨rfl, rfl⟩) fun a3 s3 ⟨l3, H3, J3, b3, c3, d3⟩ => ?_
  subst c3 d3
  refine thn (st.run pins s3 σ H3 (fun l H4 => l = some (-1) ∧ H4 = H3) J3 ⟨1, rfl, -1, rfl, rfl, rfl⟩) fun a4 s4 ⟨l4, H4, J4, b4, c4, d4⟩ => ?_
  subst c4 d4
  obtain ⟨o2, e2, e2'⟩ := IsPart.raw b2
  obtain ⟨o3, e3, e3'⟩ := IsPart.raw b3
  obtain ⟨o4, e4, e4'⟩ := IsPart.raw b4
  have n2 : o2 = none := by cases o2 with | none => rfl | some z => cases e2'
  have n3 : o3 = none := by cases o3 with | none => rfl | some z => cases e3'
  obtain ⟨u4, n4⟩ : ∃ u4, o4 = some (-1, u4) := by
    cases o4 with
    | none => cases e4'
    | some z =>
      obtain ⟨i, u⟩ := z
      have : some i = some (-1 : Int) := e4'
      cases this
      exact ⟨u, rfl⟩
  subst n2 n3 n4 e2 e3 e4
  have J5 := J4.kept (h' := s4.heap.push { cls := .type "slice", data := .fields #[.none, .none, .int (-1) u4] }) (t' := s4.toks) fun b ob g => Heap.get?_push_of_some _ g
  refine tail_any (ops := [.str (SX.S w) t, .ref s4.heap.objs.size]) (typeIs_str _ _ _) PySem.F.slot_str_getitem.lookup ?_ (by with_unfolding_all rfl)
  refine wpAny_getItem_str_slice (l := none) (u := none) (st := some (-1, u4)) ⟨_, Heap.get?_push_size _ rfl, rfl, rfl⟩ rfl ?_
  have e5 := rev_list w u4
  unfold Txt.sliceBy slicePicked at e5
  have c0 : ¬ (((((some ((-1 : Int), u4)).map (·.1)).getD 1 == 1) && ((Builtin.Str.strSliceIndices ((none : Option (Int × Tok)).map (·.1)) ((none : Option (Int × Tok)).map (·.1)) (((some ((-1 : Int), u4)).map (·.1)).getD 1) (SX.S w).length).length == (SX.S w).length)) = true) := by
    have : ((((some ((-1 : Int), u4)).map (·.1)).getD 1 == 1)) = false := rfl
    rw [this]; simp
  rw [if_neg c0] at e5
  unfold sliceMade slicePicked
  rw [if_neg c0, e5]
  exact ⟨by rw [SX.S_len, List.length_reverse]; exact hz, tx w.reverse, H4, J5.tok _, ⟨_, rfl⟩, q⟩
end
end FTR
end
section
set_option Elab.async false
set_option linter.all false
set_option maxRecDepth 100000
set_option maxHeartbeats 4000000
/-! sum(d.values()) -/
namespace FTR
open PySem PySem.Spec PyProof.Rows L2
theorem preSum_list (ns : List Int) : ∀ k, k ≤ ns.length → preSum (fun i => ns.getD i 0) k = (ns.take k).sum
  | 0, _ => by simp [preSum]
  | k + 1, h => by
    have ih := preSum_list ns k (by omega)
    show preSum (fun i => ns.getD i 0) k + ns.getD k 0 = _
    have hk : k < ns.length := by omega
    rw [ih, List.take_succ_eq_append_getElem hk, List.sum_append]
    simp [List.getD, hk]
section
variable {X : Cx} {o : Expr} {td : TE} {p pos mpos apos : Pos}
def tSumVals (td : TE) : TE := fun σ H Q => td σ H fun x H1 => ∃ (a : Addr) (kvs : List (Key × V)) (ns : List Int), x = .ref a ∧ H1 a = some (.dK kvs) ∧ kvs.map (·.2) = ns.map V.int ∧ Q (.int ns.sum) H1
theorem pe_sumVals (calm : X.calm = true) (gl : Gl X "sum") (nm : X.mg "sum" = none) (pd : PE X o td) (hbase : attributeBase o "values" X.env (eval o X.env) = eval o X.env := by rfl) (one : (apos.endLine == mpos.line) = true := by rfl)
    (star : starEach [Expr.Call (.Attribute o "values" apos) [] [] mpos] X.env = [(false, eval (Expr.Call (.Attribute o "values" apos) [] [] mpos) X.env)] := by rfl) :
    PE X (.Call (.Name "sum" p) [.Call (.Attribute o "values" apos) [] [] mpos] [] pos) (tSumVals td) := by
  refine ⟨fun pins s0 σ H0 Q J hw => wpAny_Call_Name_kw (ld_blt J gl nm (u := .builtin "sum") (by first | rfl | decide +kernel) ?_ (by first | decide +kernel | decide) (by first | decide +kernel | decide))⟩
  rw [star]
  refine PySem.callWith_builtin1 (wpAny_Call_method0_late hbase one (thn (pd.run pins s0 σ H0 _ J hw) fun v s ⟨x, H1, J1, r1, a, kvs, ns, ex, ha, hv, q⟩ => ?_))
  subst ex
  obtain rfl : v = Value.ref a := r1
  obtain ⟨_, hsys, vs, rel, dof⟩ := dk_of J1.hok ha
  obtain ⟨ep, dat⟩ := dof.dictAt
  obtain ⟨ob, es, ho, ex, rest⟩ := id dat
  refine ⟨"dict", "dict.values", F.plainAttrs_dict, F.slot_dict_values, F.type_dict_values, ⟨ob, ho, ex.1⟩, fun b e => ?_, Calls.callWith_builtin rfl (PySem.evalArgs_none ?_)⟩
  · cases e; exact ⟨ob, ho, ex.2.1⟩
  refine call_meetsIn F.slot_dict_values ⟨ob, ho, ex.1⟩ F.entry_dict_values (F.args_dict_values_1 _) (meets_dict_values (mixKind X.prog X.w) a hsys) ⟨⟨vs, dof⟩, ?_⟩
  generalize hV : s.heap.push { cls := .type "dict_values", data := .fields #[.ref a] } = hp
  have k1 : ∀ b u, s.heap.get? b = some u → hp.get? b = some u := fun b u e => by rw [← hV]; exact Heap.get?_push_of_some _ e
  have z1 : hp.objs.size = s.heap.objs.size + 1 := by rw [← hV]; exact Heap.size_push _ _
  have view : hp.IsValuesView s.heap.objs.size a := by rw [← hV]; exact ⟨_, Heap.get?_push_size _ rfl, rfl, rfl⟩
  have dat1 := dat.keep k1
  have lv : vs.length = ns.length := by
    have e1 := congrArg List.length hv
    rw [List.length_map, List.length_map] at e1
    rw [← e1]
    exact (KV.length rel).symm
  have val : ∀ (i : Nat) (v : Value), (∃ k, vs[i]? = some (k, v)) → ∃ t, v = Value.int ((fun j => ns.getD j 0) i) t := fun i v ⟨k, hk⟩ => by
    obtain ⟨x, h1, h2⟩ := KV.at' rel hk
    have e1 : (kvs.map (·.2))[i]? = some x := by rw [List.getElem?_map, h1]; rfl
    rw [hv, List.getElem?_map] at e1
    obtain ⟨j, hj, e2⟩ := Option.map_eq_some_iff.mp e1
    subst e2
    obtain ⟨t, e3⟩ := h2
    refine ⟨t, e3.trans ?_⟩
    show Value.int j t = Value.int (ns.getD i 0) t
    rw [List.getD_eq_getElem?_getD, hj]; rfl
  have lt := Heap.lt_size ho
  have ne : a ≠ hp.objs.size := by rw [z1]; exact Nat.ne_of_lt (Nat.lt_succ_of_lt lt)
  refine call_sum_walkAnyS (wpAny_pyIter_values (v := s.heap.objs.size) (d := a) view dat1 ?_)
  refine ⟨_, _, _, _, _, _, _, (fun j => ns.getD j 0), rfl, (Walks.dictValues (knd := mixKind X.prog X.w) (A := X.A.in1) (J.ok.hd calm) hp.objs.size a ne vs ep).toS,
    ⟨⟨_, Heap.get?_push_size _ rfl, rfl, rfl⟩, dat1.keep fun b u e => Heap.get?_push_of_some _ e⟩, fun b hb => ?_, val, fun s' t' mv => ?_⟩
  · show b < (hp.push _).objs.size
    rw [Heap.size_push]
    rcases List.mem_cons.mp hb with e | hb
    · rw [e]; exact Nat.lt_succ_self _
    · rw [List.mem_singleton.mp hb, z1]; exact Nat.lt_succ_of_lt (Nat.lt_succ_of_lt lt)
  · have e : preSum (fun j => ns.getD j 0) vs.length = ns.sum := by rw [lv, preSum_list ns _ (Nat.le_refl _), List.take_length]
    rw [e, Moved.eq_with mv]
    refine ⟨.int ns.sum, H1, J1.kept (t' := s'.toks) fun b u g => mv.heap b u (fun hm => ?_) (Heap.get?_push_of_some _ (k1 b u g)), ⟨t', rfl⟩, q⟩
    have e1 := List.mem_singleton.mp hm
    have e2 := Heap.lt_size g
    rw [e1, z1] at e2
    exact Nat.not_succ_lt_self e2
end
end FTR
end
section
set_option Elab.async false
set_option linter.all false
set_option maxRecDepth 100000
set_option maxHeartbeats 8000000
/-! sorted(set(text)) -/
namespace FTR
open PySem PySem.Spec PyProof.Rows L2 PySem.Froz
def codeOf (e : Int × Value) : Nat := match e.2 with | .str x _ => x.cps.getD 0 0 | _ => 0
/-- the payload of a set of texts of one sign, l their codes -/
structure SgSet (P : Program) (w : World) (D : SD) (l : List Nat) : Prop where
  ok : TxOk P w D (l.map sing)
  ent : ∀ e ∈ D.1.toList, ∃ c t, e.2 = Value.str (sing c) t
  per : (D.1.toList.map codeOf).Perm l
  ris : Ris D.2.2.place.toList
  led : w.params.followText "set-order" = true ∨ D.2.2.led = true
section
variable {P : Program} {w : World} {A : Around} {E : Value → Shared → Prop} {s : Shared}
theorem sing_inj {c d : Nat} (h : sing c = sing d) : c = d := by
  have : [c] = [d] := congrArg (fun y : Str => y.cps.toList) h
  exact (List.cons.inj this).1
theorem sing_mem {c : Nat} {l : List Nat} : sing c ∈ l.map sing ↔ c ∈ l := by
  rw [List.mem_map]
  constructor
  · rintro ⟨d, hd, e⟩
    rw [← sing_inj e]; exact hd
  · intro h; exact ⟨c, h, rfl⟩
theorem SgSet.start : SgSet P w (#[], 0, SetTable.fresh 0 0 (!w.params.followText "set-order")) [] where
  ok := TxOk.nil rfl
  ent := fun e h => by simp at h
  per := by simp
  ris := List.Pairwise.nil
  led := by
    show _ ∨ (!w.params.followText "set-order") = true
    cases w.params.followText "set-order"
    · exact .inr rfl
    · exact .inl rfl
theorem SgSet.more {D : SD} {l : List Nat} (G : SgSet P w D l) (c : Nat) (u : Tok) : SgSet P w (addTx (hashStr w (sing c)) (.str (sing c) u) D) (c :: l) := by
  obtain ⟨es, ep, t⟩ := D
  have okk := add_ok (k := sing c) u G.ok
  have pm := layNew_perm t es (hashStr w (sing c)) (.str (sing c) u)
  have r1 := layNew_ris t es (hashStr w (sing c)) (.str (sing c) u) G.ris
  have l1 := layNew_led t es (hashStr w (sing c)) (.str (sing c) u)
  unfold addTx at okk ⊢
  dsimp only at okk ⊢
  generalize layNew t es (hashStr w (sing c)) (.str (sing c) u) = Z at pm r1 l1 okk ⊢
  obtain ⟨es1, t1, wd, gv⟩ := Z
  dsimp only at pm r1 l1 okk ⊢
  rw [Array.toList_push] at pm
  generalize ht2 : (if t1.plain = true then { t1 with plain := false } else t1) = t2 at okk ⊢
  have r2 : Ris t2.place.toList := by rw [← ht2]; split <;> exact r1
  have l2 : t2.led = t.led := by rw [← ht2]; split <;> exact l1
  have ent1 : ∀ e ∈ es1.toList, ∃ c t, e.2 = Value.str (sing c) t := fun e he => by
    rcases List.mem_append.mp (pm.mem_iff.mp he) with h | h
    · exact G.ent e h
    · rw [List.mem_singleton.mp h]; exact ⟨c, u, rfl⟩
  have per1 : (es1.toList.map codeOf).Perm (c :: l) := by
    have q := pm.map codeOf
    rw [List.map_append] at q
    refine q.trans ((List.perm_append_singleton _ _).trans ?_)
    exact List.Perm.cons _ G.per
  have ledF : ∀ t' : SetTable, t'.led = t.led → (w.params.followText "set-order" = true ∨ t'.led = true) := fun t' e => G.led.imp id fun z => by rw [e]; exact z
  unfold tailTx at okk ⊢
  by_cases cc : (!wd && t2.tooFull) = true
  · rw [if_pos cc] at okk ⊢
    have pm2 := relayAll_perm t2 es1 (SetTable.grown es1.size)
    refine ⟨okk, fun e he => ent1 e (pm2.mem_iff.mp he), (pm2.map codeOf).trans per1, relayAll_ris t2 es1 _, ledF _ ?_⟩
    exact (relayAll_led t2 es1 _).trans l2
  · rw [if_neg cc] at okk ⊢
    exact ⟨okk, ent1, per1, r2, ledF _ l2⟩
/-- a text that is in it already -/
theorem add_same {a : Addr} {D : SD} {l : List Nat} {c : Nat} {u : Tok} {Q : Bool → Shared → Prop} (ho : s.heap.get? a = some (sObj "set" D)) (G : SgSet P w D l) (hc : c ∈ l) (few : l.length < scanBound) (q : Q false s) :
    wpAny (model P w) A (setAddHashed a (.str (sing c) u) (hashStr w (sing c))) Q E s := by
  obtain ⟨es, ep, t⟩ := D
  have hd : (sObj "set" (es, ep, t)).data = .set es ep t := rfl
  have F := G.ok
  have size : es.size = (l.map sing).length := F.sz
  have lt : es.size < scanBound := by rw [size, List.length_map]; exact few
  have key := is_str (P := P) (w := w) (sing c) u
  unfold setAddHashed setAddHashedIn
  refine wpAny_holding (wpAny_bind (wpAny_setState_of ho hd F.fit ?_))
  dsimp only
  rw [byScan_of rfl lt F.el]
  simp only [↓reduceIte]
  unfold setAddByScan
  refine wpAny_bind (wpAny_bind (wpAny_rule (wpAny_bind (wpAny_setScan_of (knd := strKind P w) (k := sing c) key ho hd F.fit F.el ?_))))
  have got : ∃ j, List.findIdx? (fun e => (PySem.strKind P w).is (sing c) e.2) es.toList = some j := by
    cases hr : List.findIdx? (fun e => (PySem.strKind P w).is (sing c) e.2) es.toList with
    | some j => exact ⟨j, rfl⟩
    | none =>
      obtain ⟨e, he, q⟩ := (F.mem (sing c)).mp (sing_mem.mpr hc)
      have z := List.findIdx?_eq_none_iff.mp hr e he
      rw [q] at z
      cases z
  obtain ⟨j, hj⟩ := got
  rw [hj]
  exact wpAny_pure (wpAny_pure q)
/-- set.update's loop over the signs of a text -/
theorem update_signs {I : Addr} {fp wr : List Addr} {G : Array GenState → Array GenState → Prop} {n : Nat} {St : Nat → Shared → Prop} {R : Result → Shared → Prop} {x : Str}
    (W : WalksS P w A.in1 I fp wr G n (SignAt x) St) (S : Addr) (nS : S ∉ fp) (hn : n = x.cps.size) (few : n + 1 < scanBound) :
    ∀ (k i : Nat) (s : Shared) (D : SD) (l : List Nat), n - i = k → i ≤ n → St i s → s.heap.get? S = some (sObj "set" D) → SgSet P w D l → l.Nodup → (∀ c, c ∈ l ↔ c ∈ x.cps.toList.take i) → l.length ≤ i →
      (∀ s' D' l', Moved (S :: wr) G s s' → s'.heap.get? S = some (sObj "set" D') → SgSet P w D' l' → l'.Nodup → (∀ c, c ∈ l' ↔ c ∈ x.cps.toList) → R (.ok (.ret .none)) s') →
      codeAny (model P w) A (.builtin "set.update.loop" ⟨[.ref S, .ref I], []⟩) R s := by
  have nw : S ∉ wr := fun h => nS (W.sub _ h)
  have inc : ∀ b ∈ wr, b ∈ S :: wr := fun b hb => List.mem_cons_of_mem _ hb
  intro k
  induction k with
  | zero =>
    intro i s D l ek hi st ho G nd mem len hR
    have e : i = n := by omega
    subst e
    refine codeAny_builtin PyProof.Rows.F.entry_set_update_loop ?_
    rw [Around.under_plainId PyProof.Rows.F.plain_set_update_loop _]
    show wpAny _ A.in1 (pyNext (.ref I) >>= _) _ _ s
    refine wpAny_bind (W.done s _ _ st fun s2 mv => ?_)
    show wpAny _ A.in1 (ret Value.none) _ _ s2
    refine wpAny_pure (hR s2 D l (mv.mono inc) (mv.heap S _ nw ho) G nd fun c => ?_)
    rw [mem c, hn, List.take_of_length_le (by simp)]
  | succ k ih =>
    intro i s D l ek hi st ho G nd mem len hR
    have hlt : i < n := by omega
    refine codeAny_builtin PyProof.Rows.F.entry_set_update_loop ?_
    rw [Around.under_plainId PyProof.Rows.F.plain_set_update_loop _]
    show wpAny _ A.in1 (pyNext (.ref I) >>= _) _ _ s
    refine wpAny_bind (W.item i s _ _ hlt st fun v s2 hP st2 mv => ?_)
    obtain ⟨c, u, hc, rfl⟩ := hP
    have ho2 := mv.heap S _ nw ho
    have tk : x.cps.toList.take (i + 1) = x.cps.toList.take i ++ [c] := by
      have hc' : x.cps.toList[i]? = some c := by rw [Array.getElem?_toList]; exact hc
      rw [List.take_add_one, hc']; rfl
    show wpAny _ A.in1 (holding [Value.str (sing c) u] (setAdd S (.str (sing c) u)) >>= _) _ _ s2
    refine wpAny_bind (wpAny_holding ?_)
    unfold setAdd
    refine wpAny_holding (wpAny_bind ((strKind P w).pyHash (k := sing c) (is_str _ _) ?_))
    by_cases inn : c ∈ l
    · refine add_same (s := { s2 with toks := s2.toks + 1 }) ho2 G inn (by omega) ?_
      refine wpAny_pure ⟨plainId_quiet PyProof.Rows.F.plain_set_update_loop _, ih (i + 1) _ D l (by omega) hlt (W.frame _ s2 _ _ st2 (Nat.le_add_right _ _) fun b _ o e => e) ho2 G nd (fun d => ?_) (by omega) fun s3 D3 l3 mv3 h1 h2 h3 h4 => ?_⟩
      · rw [tk, List.mem_append, mem d, List.mem_singleton]
        constructor
        · exact .inl
        · rintro (h | h)
          · exact h
          · rw [h]; exact (mem c).mp inn
      · exact hR s3 D3 l3 (Moved.trans W.gtrans ((mv.mono inc).then_heap (Nat.le_add_right _ _) fun b o _ e => e) mv3) h1 h2 h3 h4
    · refine add_x (s := { s2 with toks := s2.toks + 1 }) ho2 G.ok (fun z => inn (sing_mem.mp z)) (by rw [List.length_map]; omega) ?_
      have ho3 : (s2.heap.update S (fun _ => sObj "set" (addTx (hashStr w (sing c)) (.str (sing c) u) D))).get? S = some (sObj "set" (addTx (hashStr w (sing c)) (.str (sing c) u) D)) := get_upd _ ho2 rfl
      have oth : ∀ b o, b ≠ S → s2.heap.get? b = some o → (s2.heap.update S (fun _ => sObj "set" (addTx (hashStr w (sing c)) (.str (sing c) u) D))).get? b = some o := fun b o hb e => (Heap.get?_update_ne _ _ _ _ hb).trans e
      refine wpAny_pure ⟨plainId_quiet PyProof.Rows.F.plain_set_update_loop _, ih (i + 1) _ _ (c :: l) (by omega) hlt (W.frame _ s2 _ _ st2 (Nat.le_add_right _ _) fun b hb o e => oth b o (fun z => nS (z ▸ hb)) e) ho3 (G.more c u)
        (List.nodup_cons.mpr ⟨inn, nd⟩) (fun d => ?_) (by simp only [List.length_cons]; omega) fun s3 D3 l3 mv3 h1 h2 h3 h4 => ?_⟩
      · rw [tk, List.mem_append, List.mem_cons, mem d, List.mem_singleton]
        exact Or.comm
      · refine hR s3 D3 l3 (Moved.trans W.gtrans ((mv.mono inc).then_heap (Nat.le_add_right _ _) fun b o hb e => oth b o (fun z => hb (by rw [z]; exact List.mem_cons_self)) e) mv3) h1 h2 h3 h4
/-- set(text) -/
theorem call_set_tx {x : Str} {t : Tok} {Q : Value → Shared → Prop} (calm : A.handled = none) (few : x.cps.size + 1 < scanBound)
    (hq : ∀ (hp : Heap) (tk : Nat) D l, (∀ b o, s.heap.get? b = some o → hp.get? b = some o) → hp.get? s.heap.objs.size = some (sObj "set" D) → SgSet P w D l → l.Nodup → (∀ c, c ∈ l ↔ c ∈ x.cps.toList) → Q (.ref s.heap.objs.size) { s with heap := hp, toks := tk }) :
    wpAny (model P w) A (call (.type "set") [.str x t]) Q E s := by
  obtain ⟨c, tl, hmro⟩ := F.called_set.mro
  have hmade := F.called_set.made
  have hsub := F.called_set.sub
  refine wpAny_call (codeAny_of_tree ?_)
  show wpAny _ _ (callAny (.type "set") _) _ _ _
  refine wpAny_pure ⟨Code.quiet_builtin _ (by decide +kernel), codeAny_builtin F.entry_type_call ?_⟩
  rw [Around.under_plain (weight_type_call_type "set" [.str x t] []) rfl]
  have h1 := F.called_set.notType
  have h2 := F.called_set.canCreate
  have hct := F.typeCall_set_1 (.str x t)
  repeat (any_goals (first | assumption | wp_step))
  generalize hE : ({ cls := .type "set", dict := none, data := .set #[] 0 (.fresh 0 0 (!w.params.followText "set-order")) } : Obj) = oE
  have k0 : ∀ b o, s.heap.get? b = some o → (s.heap.push oE).get? b = some o := fun b o e => Heap.get?_push_of_some _ e
  refine codeAny_mono (code_set_led1 (.str x t) (E := E) (Q₁ := fun obj s₁ => obj = .ref s.heap.objs.size ∧ s₁ = { s with heap := s.heap.push oE }) ⟨rfl, by rw [hE]⟩) fun r s₁ hr => ?_
  cases r with
  | error e => exact hr
  | ok fl =>
    cases fl with
    | ret obj =>
      obtain ⟨rfl, rfl⟩ := hr
      have atS : (s.heap.push oE).get? s.heap.objs.size = some (sObj "set" (#[], 0, SetTable.fresh 0 0 (!w.params.followText "set-order"))) := by rw [← hE]; exact Heap.get?_push_size _ rfl
      have hT : Shared.TypeIs { s with heap := s.heap.push oE } (.ref s.heap.objs.size) "set" := ⟨_, atS, rfl⟩
      have hli := F.called_set.init.lookup
      have hbi := F.called_set.init.bind (.ref s.heap.objs.size)
      repeat (any_goals (first | assumption | wp_step))
      refine codeAny_mono (codeAny_call_builtin (R := wants (fun r s₂ => r = .none ∧ ∃ (hp : Heap) (tk : Nat) (D : SD) (l : List Nat), s₂ = { s with heap := hp, toks := tk } ∧ (∀ b o, s.heap.get? b = some o → hp.get? b = some o) ∧
        hp.get? s.heap.objs.size = some (sObj "set" D) ∧ SgSet P w D l ∧ l.Nodup ∧ (∀ c, c ∈ l ↔ c ∈ x.cps.toList)) E) F.called_set.init.plain F.entry_set_init (check_set_init_1 hT ?_)) fun r₂ s₂ hr₂ => ?_
      · have g1 : isSubtype (.type "str") (.type "set") = pure false := by rw [isSubtype_type]; kernel_rfl
        have g2 : isSubtype (.type "str") (.type "frozenset") = pure false := by rw [isSubtype_type]; kernel_rfl
        have g3 : (Value.type "str" == Value.type "dict") = false := by decide
        unfold Builtin.«set.__init__» noKeywords Builtin.Frozenset.updateFrom
        generalize hPI : pyIter = PI
        wp_walk
        subst hPI
        refine wpAny_pyIter_str fun o St W st => ?_
        refine wpAny_bind (wpAny_runValue ?_)
        have ne : s.heap.objs.size ∉ [(s.heap.push oE).objs.size] := by
          rw [Heap.size_push, List.mem_singleton]
          exact Nat.ne_of_lt (Nat.lt_succ_self _)
        refine update_signs (W A.in1.in1.in1 (by simp [calm])).toS s.heap.objs.size ne rfl few x.cps.size 0 _ _ [] (Nat.sub_zero _) (Nat.zero_le _) st (Heap.get?_push_of_some _ atS) SgSet.start List.nodup_nil (fun c => by simp) (Nat.le_refl _) fun s3 D l mv b1 b2 b3 b4 => ?_
        obtain ⟨hp, gg, dd, tk, oo⟩ := s3
        have e1 : gg = s.gens := mv.gens
        have e2 : dd = s.drawn := mv.drawn
        have e3 : oo = s.os := mv.os
        subst e1; subst e2; subst e3
        show wpAny _ _ _ _ _ _
        refine wpAny_pure ?_
        show wpAny _ _ (ret Value.none) _ _ _
        refine wpAny_pure ⟨rfl, hp, tk, D, l, rfl, fun b u g => mv.heap b u (fun hm => ?_) (Heap.get?_push_of_some _ (k0 b u g)), b1, b2, b3, b4⟩
        have lt := Heap.lt_size g
        rcases List.mem_cons.mp hm with z | z
        · rw [z] at lt; exact Nat.lt_irrefl _ lt
        · rw [List.mem_singleton.mp z, Heap.size_push] at lt
          exact Nat.not_succ_lt_self lt
      · cases r₂ with
        | error e => exact hr₂
        | ok fl₂ =>
          cases fl₂ with
          | ret r =>
            obtain ⟨rfl, hp, tk, D, l, rfl, g1, g2, g3, g4, g5⟩ := hr₂
            repeat (any_goals (first | assumption | wp_step))
            exact hq _ _ _ _ g1 g2 g3 g4 g5
          | _ => exact hr₂.elim
    | _ => exact hr.elim
end
end FTR
end
section
set_option Elab.async false
set_option linter.all false
set_option maxRecDepth 100000
set_option maxHeartbeats 8000000
/-! sorted(set(text)), as rules of the hand layer -/
namespace FTR
open PySem PySem.Spec PyProof.Rows L2 PySem.Froz
theorem rising_codes : ∀ (ys : List Nat) (p : Nat), risingS (sing p) (ys.map sing) = true → (p :: ys).Pairwise (· ≤ ·)
  | [], _, _ => List.pairwise_singleton _ _
  | y :: ys, p, h => by
    have h' : (!ltCps (sing y).cps.toList (sing p).cps.toList && risingS (sing y) (ys.map sing)) = true := h
    rw [Bool.and_eq_true, Bool.not_eq_true', ltCps_eq, decide_eq_false_iff_not] at h'
    have ih := rising_codes ys y h'.2
    have le : p ≤ y := by
      refine Classical.byContradiction fun hn => h'.1 ?_
      show [y] < [p]
      exact List.Lex.rel (by omega)
    refine List.pairwise_cons.mpr ⟨fun z hz => ?_, ih⟩
    rcases List.mem_cons.mp hz with e | hz
    · rw [e]; exact le
    · exact Nat.le_trans le ((List.pairwise_cons.mp ih).1 z hz)
theorem sorted_codes {ys : List Nat} (h : sortedS (ys.map sing) = true) : ys.Pairwise (· ≤ ·) := by
  cases ys with
  | nil => exact List.Pairwise.nil
  | cons y ys => exact rising_codes ys y h
theorem strict_codes : ∀ {l : List Nat}, l.Pairwise (· ≤ ·) → l.Nodup → l.Pairwise (· < ·)
  | [], _, _ => List.Pairwise.nil
  | x :: l, h, d => by
    obtain ⟨h1, h2⟩ := List.pairwise_cons.mp h
    obtain ⟨d1, d2⟩ := List.nodup_cons.mp d
    refine List.pairwise_cons.mpr ⟨fun y hy => ?_, strict_codes h2 d2⟩
    have a := h1 y hy
    have b : x ≠ y := fun z => d1 (z ▸ hy)
    omega
theorem sings_of : ∀ (l : List Str), (∀ x ∈ l, ∃ c, x = sing c) → ∃ ys : List Nat, l = ys.map sing
  | [], _ => ⟨[], rfl⟩
  | x :: l, h => by
    obtain ⟨c, e⟩ := h x List.mem_cons_self
    obtain ⟨ys, e2⟩ := sings_of l fun y hy => h y (List.mem_cons_of_mem _ hy)
    exact ⟨c :: ys, by rw [e, e2]; rfl⟩
theorem perm_sings {a b : List Nat} (h : (a.map sing).Perm (b.map sing)) : a.Perm b := by
  have q := h.map (fun x : Str => x.cps.getD 0 0)
  rw [List.map_map, List.map_map] at q
  have e : ∀ l : List Nat, l.map ((fun x : Str => x.cps.getD 0 0) ∘ sing) = l := fun l => by
    conv => rhs; rw [← List.map_id l]
    exact List.map_congr_left fun c _ => rfl
  rw [e, e] at q
  exact q
theorem strs_sings : ∀ {l : List Value}, (∀ v ∈ l, ∃ c t, v = Value.str (sing c) t) → StrsAre l (l.map strOf)
  | [], _ => .nil
  | v :: l, h => by
    obtain ⟨c, t, e⟩ := h v List.mem_cons_self
    subst e
    exact .cons _ t (strs_sings fun u hu => h u (List.mem_cons_of_mem _ hu))
section
variable {P : Program} {w : World} {A : Around} {E : Value → Shared → Prop} {s : Shared}
/-- sorted(a set of signs) -/
theorem sorted_signs {a : Addr} {D : SD} {l : List Nat} {Q : Value → Shared → Prop} (calm : A.handled = none) (ho : s.heap.get? a = some (sObj "set" D)) (G : SgSet P w D l) (nd : l.Nodup) (few : l.length < 64)
    (hq : ∀ s' p (out : Array Value) (c : Nat) (ys : List Nat), (∀ b o, s.heap.get? b = some o → s'.heap.get? b = some o) → s'.gens = s.gens → s'.os = s.os → s.heap.objs.size ≤ p →
      s'.heap.get? p = some (seqObj "list" out c) → StrsAre out.toList (ys.map sing) → ys.Pairwise (· < ·) → ys.Perm l → Q (.ref p) s') :
    wpAny (model P w) A (call (.builtin "sorted") [.ref a]) Q E s := by
  obtain ⟨es, ep, t⟩ := D
  have size : es.size = l.length := by have := G.ok.sz; rw [List.length_map] at this; exact this
  refine Calls.call_function_entry kind_sorted plain_sorted entry_sorted (args_sorted1 _) ?_
  unfold Builtin.«sorted»
  refine wpAny_bind (m := checkCount "sorted" 1 1 _) (wpAny_pure ?_)
  refine wpAny_bind (collect_set (A := A.in1) calm ⟨_, ho, rfl, rfl⟩ G.ok.fit (by show es.size < 4096; omega) G.ris G.led fun s1 vs k1 hz g1 o1 pm => ?_)
  have len : vs.length = l.length := by rw [pm.length_eq, List.length_map, Array.length_toList]; exact size
  have ent : ∀ v ∈ vs, ∃ c t, v = Value.str (sing c) t := fun v hv => by
    obtain ⟨e, he, q⟩ := List.mem_map.mp (pm.mem_iff.mp hv)
    obtain ⟨c, t, h⟩ := G.ent e he
    exact ⟨c, t, by rw [← q]; exact h⟩
  have sts := strs_sings ent
  have pk : (vs.map strOf).Perm (l.map sing) := by
    have q := pm.map strOf
    refine q.trans ?_
    have q2 := G.per.map sing
    rw [List.map_map] at q2 ⊢
    have e : List.map (strOf ∘ fun x => x.2) es.toList = List.map (sing ∘ codeOf) es.toList := List.map_congr_left fun e he => by
      obtain ⟨c, t, h⟩ := G.ent e he
      show strOf e.2 = sing (codeOf e)
      unfold codeOf
      rw [h]; rfl
    rw [e]
    exact q2
  refine wpAny_bind (wpAny_newList ?_ (by rw [len, sizeLine_eq]; omega))
  have hoL : (s1.heap.push (seqObj "list" vs.toArray 0)).get? s1.heap.objs.size = some (seqObj "list" vs.toArray 0) := Heap.get?_push_size _ rfl
  refine wpAny_bind (wpAny_holding (wpAny_call_entry slot_list_sort ⟨_, hoL, rfl⟩ entry_list_sort (list_sort_treeK strKind_oneLt hoL sts.keysOf (fun v₁ v₂ rest e => keyKind_strs (by rw [← e]; exact sts)) (by rw [len]; exact few) fun st' hp hs => ⟨_, rfl, ?_⟩) (args_list_sort _)))
  obtain ⟨ss', a1, a2, a3⟩ := sorted_out_str sts hp hs
  obtain ⟨ys, e⟩ := sings_of ss' fun x hx => by
    obtain ⟨c, _, h⟩ := List.mem_map.mp ((a2.trans pk).mem_iff.mp hx)
    exact ⟨c, h.symm⟩
  subst e
  have pn : ys.Perm l := perm_sings (a2.trans pk)
  obtain ⟨c, hc⟩ := sortedHeap_at (vs := vs) (out := (arrOf st').map (·.2)) hoL
  refine wpAny_pure ⟨_, rfl, hq _ s1.heap.objs.size _ c ys (fun b u e => ?_) g1 o1 hz hc a1 (strict_codes (sorted_codes a3) (pn.nodup_iff.mpr nd)) pn⟩
  have q := k1 b u e
  have hlt := Heap.lt_size q
  refine (sortedHeap_old (Nat.ne_of_lt hlt) (by rw [size_push']; exact Nat.lt_succ_of_lt hlt)).trans ?_
  exact Heap.get?_push_of_some _ q
end
/-- at a: a set of the signs l -/
def SgO (P : Program) (w : World) (a : Addr) (l : List Nat) : HO := .ext fun h => ∃ D, h.get? a = some (sObj "set" D) ∧ SgSet P w D l
theorem sgO_ok {P : Program} {w : World} {H : Hp} {h : Heap} {a : Addr} {D : SD} {l : List Nat} (ho : h.get? a = some (sObj "set" D)) (G : SgSet P w D l) : ObjOk P w H h a (SgO P w a l) :=
  ⟨⟨D, ho, G⟩, ⟨_, ho⟩, fun h1 h2 z k => by
    obtain ⟨D', ho', G'⟩ := z
    exact ⟨D', k _ ho', G'⟩⟩
section
variable {X : Cx}
def rSetTx (P : Program) (w : World) : List V → Hp → VK → Prop := fun vs H Q => ∃ z : List Nat, vs = [.str (SX.S z)] ∧ z.length ≤ 1000 ∧ ∀ p l, H p = none → l.Nodup → (∀ c, c ∈ l ↔ c ∈ z) → Q (.ref p) (upd H p (SgO P w p l))
theorem cr_setTx (calm : X.calm = true) : CallR X (.type "set") (rSetTx X.prog X.w) := by
  intro pins s σ H vs us Q J r hw
  obtain ⟨z, rfl, hz, q⟩ := hw
  obtain ⟨u, rfl, ru⟩ := vals1 r
  obtain ⟨t, rfl⟩ := ru
  refine call_set_tx (J.ok.hd calm) (by show z.toArray.size + 1 < 4096; rw [List.size_toArray]; omega) fun hp tk D l kp ho G nd mem => ?_
  exact ⟨.ref s.heap.objs.size, _, J.laid (t' := tk) kp (Nat.le_refl _) (sgO_ok ho G), rfl, q _ l (J.hok.fresh (Nat.le_refl _)) nd mem⟩
def rSortSg (P : Program) (w : World) : List V → Hp → VK → Prop := fun vs H Q => ∃ (a : Addr) (l : List Nat), vs = [.ref a] ∧ H a = some (SgO P w a l) ∧ l.Nodup ∧ l.length < 64 ∧
  ∀ (ys : List Nat) (p : Addr), ys.Pairwise (· < ·) → ys.Perm l → H p = none → Q (.ref p) (upd H p (.lst (ys.map fun c => V.str (SX.S [c]))))
theorem cr_sortSg (calm : X.calm = true) : CallR X (.builtin "sorted") (rSortSg X.prog X.w) := by
  intro pins s σ H vs us Q J r hw
  obtain ⟨a, l, rfl, ha, nd, few, q⟩ := hw
  rw [Vals.ref1 r]
  have x : ObjOk X.prog X.w H s.heap a (.ext fun h => ∃ D, h.get? a = some (sObj "set" D) ∧ SgSet X.prog X.w D l) := J.hok a _ ha
  obtain ⟨⟨D, ho, G⟩, _, _⟩ := x
  refine sorted_signs (J.ok.hd calm) ho G nd few fun s' p out c ys kp g1 o1 le hp sts ps pm => ?_
  obtain ⟨hp', gg, dd, tk, oo⟩ := s'
  have e1 : gg = s.gens := g1
  have e3 : oo = s.os := o1
  subst e1; subst e3
  have ob : ObjOk X.prog X.w (upd H p (.lst (ys.map fun c => V.str (SX.S [c])))) hp' p (.lst (ys.map fun c => V.str (SX.S [c]))) := by
    refine ⟨?_, out.toList, c, ?_, ?_⟩
    · rw [List.length_map, pm.length_eq, sizeLine_eq]; omega
    · have := vals_of_strs sts
      rw [List.map_map] at this
      exact this
    · rw [Array.toArray_toList]; exact hp
  have fr := J.hok.fresh le
  refine ⟨.ref p, _, ?_, rfl, q ys p ps pm fr⟩
  exact J.call (g' := s.gens) (d' := dd) (t' := tk) (ch := []) (Un.laid kp le fr) (J.hok.laid kp le ob) J.bare fun _ z => nomatch z
end
end FTR
end
section
set_option Elab.async false
set_option linter.all false
set_option maxRecDepth 100000
set_option maxHeartbeats 4000000
/-! an own error of one field, whose __init__ says super().__init__(most) ahead of storing it -/
namespace FTE
open PySem PySem.W PySem.Calls PyProof.Rows PySem.HandSPX
/-! ### the text of __init__ -/
def tA : Arguments := { posonlyargs := [], args := [{ arg := "self", annotation := none, pos := ⟨11, 17, 11, 21⟩ }, { arg := "most", annotation := none, pos := ⟨11, 23, 11, 27⟩ }], vararg := none, kwonlyargs := [], kw_defaults := [], kwarg := none, defaults := [] }
def tB : List Stmt :=
  [.Expr (.Call (.Attribute (.Call (.Name "super" ⟨12, 8, 12, 13⟩) [] [] ⟨12, 8, 12, 15⟩) "__init__" ⟨12, 8, 12, 24⟩) [.Name "most" ⟨12, 25, 12, 29⟩] [] ⟨12, 8, 12, 30⟩) ⟨12, 8, 12, 30⟩,
   .Assign [.Attribute (.Name "self" ⟨13, 8, 13, 12⟩) "most" ⟨13, 8, 13, 17⟩] (.Name "most" ⟨13, 20, 13, 24⟩) ⟨13, 8, 13, 24⟩]
def tS : Scope := { kind := .function, names := [(PySem.Str.ofString "self", .local), (PySem.Str.ofString "most", .local), (PySem.Str.ofString "__class__", .free), (PySem.Str.ofString "super", .globalImplicit)], isGenerator := false, isCoroutine := false, more := [] }
/-- what the written part says of the class at C and of its __init__ at fI -/
structure ManyTxt (P : Program) (K : Frag) (mg : Str → Option Value) (C fI : Addr) : Prop where
  gC : mg "TooMany" = some (.ref C)
  cls : ∃ nm q N bs bm sn sub ab col dd k0 k1 k2 k3 k5, K.lookup C = some (excClassObj nm q C N bs bm true sn sub ab col dd k0 k1 k2 k3 k5 "ValueError.__new__") ∧ refsVE bm = true
  sa : findIn K (.ref C) "__setattr__" = some (some (.builtin "object.__setattr__"))
  ga : findIn K (.ref C) "__getattribute__" = some (some (.builtin "BaseException.__getattribute__"))
  gg : findIn K (.ref C) "__getattr__" = some none
  noN : findIn K (.ref C) "most" = some none
  iC : findIn K (.ref C) "__init__" = some (some (.ref fI))
  tC : typeIn K (.ref fI) = some (.type "function")
  kC : keepIn K (.ref C) = true
  exC : subIn K (.ref C) (.type "BaseException") = some true
  veC : subIn K (.ref C) (.type "ValueError") = some true
  tyC : typeIn K (.ref C) = some (.type "type")
  hdC : hasDictIn K C = true
  sup : ks_superIn K C C "__init__" = some (some (.builtin "ValueError.__init__"))
  own : mroIn K C (.ref C) = some true
  any : nsIn K cStatics "thirdparty.any" = some none
  noS : mg "super" = none
  top : (P.main.scope.names.lookup ("super" : Str)).isSome = false
  fn : ∃ (oc : Value) (od : Option Addr) (doc pm : Value) (an : Option Addr) (cda : Addr) (ct : Value) (osl : Array (Option Value)) (cc : Addr) (vs : Array Value) (file : Str) (tf : Tok) (ccl cl : Value) (cdd cld : Option Addr) (ccs csl : Array (Option Value)),
    K.lookup fI = some ⟨oc, od, .func (fnX "__init__" "TooMany.__init__" tA tB tS [("__class__", cc)] .none .none doc pm an (.ref cda) ct), osl⟩ ∧ codeIn K (.ref cda) "TooMany.__init__" = true ∧
    K.lookup cda = some ⟨ccl, cdd, .fields vs, ccs⟩ ∧ vs[2]? = some (.str file tf) ∧ ((P.main.file : Str) == file) = true ∧ K.lookup cc = some ⟨cl, cld, .cell (some (.ref C)), csl⟩
theorem one_line (v : Value) : [v].length ≤ sizeLine := by
  rw [sizeLine_eq]
  exact (by decide : 1 ≤ 16777216)
/-- what __init__ leaves of a fresh exception at x -/
structure Ended (h h' : Heap) (x C dx t1 : Addr) (v : Value) : Prop where
  keep : ∀ b o, b ≠ x → h.get? b = some o → h'.get? b = some o
  obj : h'.get? x = some { cls := .ref C, dict := some dx, data := .fields #[.ref t1, .none, .none, .none, .bool false, .none] }
  dbig : h.objs.size ≤ dx
  dne : dx ≠ x
  ns : h'.Ns1 dx (fun y => if y = "most" then some v else none)
/-- a made one -/
structure Made1 (h h' : Heap) (e C d : Addr) (v : Value) : Prop where
  keep : ∀ b o, h.get? b = some o → h'.get? b = some o
  new : h.objs.size ≤ e
  obj : ∃ oe vs, h'.get? e = some oe ∧ oe.cls = .ref C ∧ oe.dict = some d ∧ oe.data = .fields vs ∧ vs[1]? = some .none
  dbig : h.objs.size ≤ d
  dne : d ≠ e
  ns : h'.Ns1 d (fun y => if y = "most" then some v else none)
theorem ldL {M : Model} {s : Shared} {env : Env} {m : Str → Option Value} {x : Str} {pos : Pos} {v : Value} {Q : Value → Shared → Prop} {A : Around} {E : Value → Shared → Prop} (hn : s.heap.Ns env.locals m) (hv : m x = some v) (h : Q v s)
    (hk : env.scope.kind = .function := by rfl) (hl : env.kindOf x = some .local := by rfl) (hd : (x == ("__debug__" : Str)) = false := by decide) :
    wpAny M A (eval (.Name x pos) env) Q E s := wpAny_Name (wpAny_loadName_local hk hl hn hv h) hd
section
variable {prog : Program} {w : World} {A : Around} {E : Value → Shared → Prop} {R : Result → Shared → Prop} {s : Shared} {K : Frag} {mg : Str → Option Value} {C fI : Addr}
theorem many_init (T : ManyTxt prog K mg C fI) {x t0 : Addr} {v : Value} (X : K.In s.heap) (lim : s.heap.NoLimit) (hx : s.heap.get? x = some (excO C t0)) (hnx : K.lookup x = none) (deep : A.depth < recursionLimit)
    (glob : s.heap.Ns mainGlobals mg) (blt : ∃ mb, s.heap.Ns builtinsNs mb ∧ mb "super" = some (.type "super"))
    (hq : ∀ h' tk dx t1, Ended s.heap h' x C dx t1 v → R (.ok (.ret .none)) { s with heap := h', toks := tk }) :
    codeAny (model prog w) A (.call (.ref fI) ⟨[.ref x, v], []⟩) R s := by
  obtain ⟨oc, od, doc, pm, an, cda, ct, osl, cc, vs, file, tf, ccl, cl, cdd, cld, ccs, csl, ho, hcd, hcode, hvs, hfile, hcell⟩ := T.fn
  obtain ⟨nm, q, N, bs, bm, sn, sub, ab, col, dd, k0, k1, k2, k3, k5, hC, hbm⟩ := T.cls
  obtain ⟨mb, hblt, hsup⟩ := blt
  have hcl : clsIn K C = some { name := nm, bases := bs, mro := .ref C :: bm, ns := N, qualname := q, hasDict := true, slotNames := sn, subclasses := sub, abstract := ab, collection := col, hasDel := false } := by unfold clsIn; rw [hC]
  refine ks_codeAny_call_defAt (binds := [("self", .ref x), ("most", v)]) deep (X _ _ ho) rfl lim (codeRec_of X hcd) rfl (BindsTo.of_eq (by first | rfl | with_unfolding_all rfl)) (show ∀ x ∈ tS.names, x.2 ≠ .cell by decide) (fun y hy => ?_) fun h₁ hn kp => ?_
  · rcases List.mem_cons.mp hy with e | hy
    · subst e; rfl
    · rw [List.mem_singleton.mp hy]; rfl
  have hx₁ := kp _ _ hx
  have X₁ : K.In h₁ := X.keeps kp
  have nlt : s.heap.objs.size ≠ x := Nat.ne_of_gt (Heap.lt_size hx)
  have env0 : Env := ksEnv "TooMany.__init__" tS s.heap.objs.size fI (.ref cda) cc
  refine ks_wpAt_execs_cons (ks_wpAt_Expr_any (ks_wpAt_MethodCall ?_))
  have hD : h₁.get? C = some (excClassObj nm q C N bs bm true sn sub ab col dd k0 k1 k2 k3 k5 "ValueError.__new__") := X₁ _ _ hC
  refine ks_wpAt_super_base (by rfl) (by rfl) (by decide) rfl (X₁ _ _ ho) rfl rfl rfl (X₁ _ _ hcode) rfl hvs hfile T.top ?_
  refine ks_loadName_global (by rfl) (by rfl) (loadGlobal_builtin (glob.keeps kp) T.noS (hblt.keeps kp) hsup ⟨rfl, ?_⟩)
  refine wpAny_loadName_free (by rfl) (by rfl) (by rfl) ⟨_, X₁ _ _ hcell, rfl⟩ (wpAny_loadName_local (by rfl) (by rfl) hn (v := .ref x) (by rfl) ?_)
  refine ks_wpAny_isType_cls hD rfl ⟨rfl, ?_⟩
  have I₁ : InstAt h₁ x (excO C t0) C none := ⟨hx₁, rfl, rfl, trivial⟩
  refine ks_wpAny_call_super hD rfl hx₁ rfl (fun c e => by cases e) (looks_mroIn X₁ T.own) (fun h₂ hso k₂ => ?_)
  have X₂ : K.In h₂ := X₁.keeps k₂
  have hI : Looks (model prog w) h₂ (isInstance (.ref x) (.type "ValueError")) true := (show InstAt h₂ x (excO C t0) C none from ⟨k₂ _ _ hx₁, rfl, rfl, trivial⟩).type.andThen (looks_subIn X₂ T.veC)
  have hm : alongIn K "__init__" (((Value.ref C :: bm).dropWhile (· != .ref C)).drop 1) = some (some (.builtin "ValueError.__init__")) := by
    have := T.sup
    unfold ks_superIn at this
    rw [hcl] at this
    exact this
  refine kxs_getMethod kxs_ValueError hso (looks_opaque X₂ T.any) (l₀ := .ref C :: bm) (fun A Q E s k q => wpAny_bind ((looks_clsIn X₂ hcl) A _ E s k (wpAny_pure q))) rfl X₂ hm hI (fun e => ?_) (by decide) ?_
  · subst e
    rw [hx₁] at hD
    cases hD
  -- the wrapper is called
  have kb : ∀ b o, h₁.get? b = some o → (h₂.push (kxs_mw "ValueError.__init__" x)).get? b = some o := fun b o e => Heap.get?_push_of_some _ (k₂ b o e)
  have hw3 : (h₂.push (kxs_mw "ValueError.__init__" x)).get? h₂.objs.size = some (kxs_mw "ValueError.__init__" x) := Heap.get?_push_size _ rfl
  have hx3 := kb _ _ hx₁
  generalize h₂.push (kxs_mw "ValueError.__init__" x) = h₃ at kb hw3 hx3 ⊢
  generalize h₂.objs.size = u at hw3 ⊢
  have hn3 : h₃.Ns s.heap.objs.size (fun y => List.lookup y [(("self" : Str), Value.ref x), ("most", v)].reverse) := hn.keeps kb
  refine kxs_callWith (i := "ValueError.__init__") (x := x) (by rfl) (evalArgs_plain (wpAny_items_cons (ldL hn3 (v := v) (by rfl) (wpAny_items_nil ⟨hw3, ?_⟩) (by rfl) (by rfl)) (by rfl)))
  obtain ⟨FB⟩ : Nonempty (ExcBaseFacts "ValueError" "ValueError.__new__" "ValueError.__init__" [.type "ValueError", .type "Exception", .type "BaseException", .type "object"]) := ⟨PySem.F.excBase_ValueError⟩
  refine wpAny_call (codeAny_of_tree ?_)
  show wpAny _ _ (callAny (.ref u) ⟨[v], []⟩) _ _ _
  simp only [callAny]
  refine wpAny_bind (wpAny_load hw3 ?_)
  simp only [kxs_mw, show (Value.type "method-wrapper" == Value.type "method" || Value.type "method-wrapper" == Value.type "builtin_function_or_method" || Value.type "method-wrapper" == Value.type "method-wrapper") = true by decide, if_true]
  refine KFB.if_so (by decide) (wpAny_bind (check_bound_init PySem.F.excBase_ValueError.toExcCallFacts (kb _ _ hD) hx3 rfl (wpAny_bind (wpAny_pure (wpAny_pure ⟨plainId_quiet PySem.F.excBase_ValueError.init.plain _, codeAny_builtin PySem.F.excBase_ValueError.initEntry ?_⟩)))))
  refine exc_init_tree (cls := .ref C) (t0 := t0) (dv := none) (c2 := .none) (c3 := .none) (b4 := .bool false) hx3 (one_line v) fun h₄ k₄ hx₄ _ => ?_
  -- self.most = most
  have hn4 : h₄.Ns s.heap.objs.size (fun y => List.lookup y [(("self" : Str), Value.ref x), ("most", v)].reverse) := by
    obtain ⟨oL, es, ep, hL, rest⟩ := hn3
    exact ⟨oL, es, ep, k₄ _ _ nlt hL, rest⟩
  have k14 : ∀ b o, b ≠ x → h₁.get? b = some o → h₄.get? b = some o := fun b o hb e => k₄ b o hb (kb b o e)
  have X₄ : K.In h₄ := fun b o e => k14 b o (fun z => by rw [z, hnx] at e; cases e) (X₁ b o e)
  refine wpAt_of_wpAny (wpAny_execs_cons (plainObj_wpAny_Assign_Attribute ?_))
  refine ldL (v := v) hn4 (by rfl) (ldL (v := .ref x) hn4 (by rfl) ?_ (by rfl) (by rfl)) (by rfl) (by rfl)
  refine set_plain X₄ (ox := excO C h₃.objs.size) (od := none) ⟨hx₄, rfl, rfl, trivial⟩ T.sa (exc_osa X₄ hx₄ hcl (show refsVE (.ref C :: bm) = true from hbm) rfl T.noN fun h₅ tk₅ dx k₅ dn dne hx₅ hn₅ => ?_)
  refine wpAny_execs_nil (hq h₅ tk₅ dx h₃.objs.size ⟨fun b o hb e => k₅ b o hb (k14 b o hb (kp b o e)), hx₅, ?_, dne, hn₅⟩)
  refine Nat.le_trans ?_ dn
  obtain ⟨oL, es, ep, hL, rest⟩ := hn4
  exact Nat.le_of_lt (Heap.lt_size hL)
theorem many_made (T : ManyTxt prog K mg C fI) {v : Value} (X : K.In s.heap) (lim : s.heap.NoLimit) (deep : A.depth + 1 < recursionLimit) (glob : s.heap.Ns mainGlobals mg) (blt : ∃ mb, s.heap.Ns builtinsNs mb ∧ mb "super" = some (.type "super"))
    (hq : ∀ h' tk e d, Made1 s.heap h' e C d v → R (.ok (.ret (.ref e))) { s with heap := h', toks := tk }) :
    codeAny (model prog w) A (.call (.ref C) ⟨[v], []⟩) R s := by
  obtain ⟨nm, q, N, bs, bm, sn, sub, ab, col, dd, k0, k1, k2, k3, k5, hC, hbm⟩ := T.cls
  obtain ⟨hp, g, dr, tk, os⟩ := s
  have kp : ∀ b o, hp.get? b = some o → ((hp.push (kdv_tup [v])).push (excO C hp.objs.size)).get? b = some o := fun b o e => Heap.get?_push_of_some _ (Heap.get?_push_of_some _ e)
  have got : ((hp.push (kdv_tup [v])).push (excO C hp.objs.size)).get? (hp.objs.size + 1) = some (excO C hp.objs.size) := by heap_get
  have hnx : K.lookup (hp.objs.size + 1) = none := by
    cases e : K.lookup (hp.objs.size + 1) with
    | none => rfl
    | some o => exact absurd (Nat.lt_of_succ_lt (Heap.lt_size (show hp.get? (hp.objs.size + 1) = some o from X _ _ e))) (Nat.lt_irrefl _)
  obtain ⟨mb, hb, hs⟩ := blt
  refine call_own PySem.F.excBase_ValueError (fun X => refsVE_contains X bm hbm) (X _ _ hC) (looks_findIn X T.iC) (fun self => bind_fn X self T.tC) (one_line v) ?_
  refine many_init (s := ⟨(hp.push (kdv_tup [v])).push (excO C hp.objs.size), g, dr, tk, os⟩) T (X.keeps kp) (lim.keeps kp) got hnx ?_ (glob.keeps kp) ⟨mb, hb.keeps kp, hs⟩ fun h' tk' dx t1 E1 => ?_
  · show A.depth + 1 < recursionLimit
    exact deep
  · have old : ∀ b o, hp.get? b = some o → h'.get? b = some o := fun b o e => E1.keep b o (Nat.ne_of_lt (Nat.lt_succ_of_lt (Heap.lt_size e))) (kp b o e)
    have z : hp.objs.size + 1 + 1 ≤ dx := by
      have q := E1.dbig
      rw [Heap.size_push, Heap.size_push] at q
      exact q
    exact ⟨rfl, hq h' tk' (hp.objs.size + 1) dx ⟨old, Nat.le_succ _, ⟨_, _, E1.obj, rfl, rfl, rfl, rfl⟩, Nat.le_trans (Nat.le_trans (Nat.le_succ _) (Nat.le_succ _)) z, E1.dne, E1.ns⟩⟩
end
end FTE
namespace FTR
open PySem PySem.Spec PyProof.Rows L2
theorem rel_most {v : V} {u : Value} (r : RelV v u) (f : Str) : RelO (List.lookup f [(("most" : Str), v)]) (if f = "most" then some u else none) := by
  by_cases e : f = "most"
  · subst e
    rw [if_pos rfl]
    have q : List.lookup ("most" : Str) [(("most" : Str), v)] = some v := by simp [List.lookup]
    rw [q]
    exact r
  · rw [if_neg e]
    have q1 : (f == ("most" : Str)) = false := by simpa using e
    have q2 : List.lookup f [(("most" : Str), v)] = none := by simp [List.lookup, q1]
    rw [q2]
    trivial
section
variable {X : Cx} {C fI : Addr}
/-- TooMany(e): of a new dict d that holds the field -/
def tMkMany (C : Addr) (ta : TA) : L2.St → Hp → XK → Prop := fun σ H Q => ta σ H fun vs H1 => ∃ v, vs = [v] ∧ ∀ d, H1 d = none → Q (.ref C) (some d) (upd H1 d (.xd [(("most" : Str), v)]))
theorem pmk_many {a : Expr} {ta : TA} {p pos : Pos} {k : Nat} (T : FTE.ManyTxt X.prog X.K X.mg C fI) (room : Room k X.A) (ha : PA X [a] ta) (gl : Gl X "TooMany" := by rfl)
    (he : starEach (a :: []) X.env = (false, eval a X.env) :: starEach [] X.env := by rfl) (plain : (backTo pos (starEach [] X.env)).any (·.1) = false := by rfl) :
    PMk X (.Call (.Name "TooMany" p) [a] [] pos) (tMkMany C ta) := by
  intro pins s0 σ H0 Q J hw
  refine wpAny_Call_Name_kw (ld_glob J gl T.gC (PySem.W.callWith_K (h₀ := X.base) J.ok.mod.kin T.kC (thn (ha.run pos pins s0 σ H0 _ J hw) fun us s1 got => ?_) he plain))
  obtain ⟨vs, H1, J1, r1, v, ev, q1⟩ := got
  subst ev
  refine ⟨J1.kIn, ?_⟩
  obtain ⟨u, eu, rv⟩ := vals1 r1
  subst eu
  show wpAny _ _ (call (.ref C) [u]) _ _ _
  have lim := J1.nolimit
  have glob : s1.heap.Ns mainGlobals X.mg := J1.mod.glob.keeps J1.bk
  obtain ⟨mb, hb, hs⟩ := J1.mod.blt
  have blt : ∃ mb, s1.heap.Ns builtinsNs mb ∧ mb "super" = some (.type "super") := ⟨mb, hb.keeps J1.bk, (hs "super" (by decide +kernel)).trans (by first | rfl | decide +kernel)⟩
  obtain ⟨hp, g, dr, tk, os⟩ := s1
  refine wpAny_call (FTE.many_made T J1.kIn lim (by have := room.dp; omega) glob blt fun h' tk' e d M => ?_)
  show MkP X pins σ Q (.ref e) ⟨h', g, dr, tk', os⟩
  obtain ⟨oe, fv, hoe, hc, hd, hdat, h1⟩ := M.obj
  have hns := M.ns
  obtain ⟨G, g1, g2⟩ := restrict h' fun b => decide (b ≠ e)
  have gk : ∀ b, b ≠ e → G.get? b = h'.get? b := fun b hb => g1 b (decide_eq_true hb)
  have ge : G.get? e = none := g2 e (by simp)
  have old : ∀ b o, hp.get? b = some o → G.get? b = some o := fun b o q => (gk b (Nat.ne_of_lt (Nat.lt_of_lt_of_le (Heap.lt_size q) M.new))).trans (M.keep b o q)
  have ob : ObjOk X.prog X.w (upd H1 d (.xd [(("most" : Str), v)])) G d (.xd [(("most" : Str), v)]) := ⟨_, hns.at (fun o q => (gk d M.dne).trans q), fun f => rel_most rv f⟩
  have J2 : Inv X pins σ (upd H1 d (.xd [(("most" : Str), v)])) ⟨G, g, dr, tk', os⟩ := J1.laid (t' := tk') old M.dbig ob
  refine ⟨e, oe, fv, ⟨G, g, dr, tk', os⟩, _, .ref C, some d, rfl, J2, fun b o q => ?_, ge, hoe, ⟨hc, hd⟩, hdat, h1, ?_, rfl, J1.bare, raises_own T.exC T.tyC, q1 d (J1.hok.fresh M.dbig)⟩
  · by_cases hb : b = e
    · have q' : G.get? b = some o := q
      rw [hb, ge] at q'
      cases q'
    · exact (gk b hb).symm.trans q
  · rw [upd_ne (Ne.symm M.dne)]
    exact J1.hok.fresh M.new
/-- raise TooMany(e) -/
def tRaiseMany (C : Addr) (W : WX) (ta : TA) : TS := fun _ σ H => tMkMany C ta σ H fun cls d H' => W cls d σ H'
theorem ps_raiseMany {a : Expr} {ta : TA} {W : WX} {p pos pos2 : Pos} {k : Nat} (calm : X.calm = true) (T : FTE.ManyTxt X.prog X.K X.mg C fI) (room : Room k X.A) (tk : Takes X W) (ha : PA X [a] ta) (gl : Gl X "TooMany" := by rfl)
    (he : starEach (a :: []) X.env = (false, eval a X.env) :: starEach [] X.env := by rfl) (plain : (backTo pos (starEach [] X.env)).any (·.1) = false := by rfl) :
    PS X (.Raise (some (.Call (.Name "TooMany" p) [a] [] pos)) none pos2) (tRaiseMany C W ta) := ps_raise calm tk (pmk_many T room ha gl he plain)
end
end FTR
end
section
set_option Elab.async false
set_option linter.all false
set_option maxRecDepth 100000
set_option maxHeartbeats 4000000
/-! several except clauses, each with its name -/
namespace FTR
open PySem PySem.Spec PyProof.Rows L2
abbrev Suite := Addr → Value → Option Addr → TS
/-- behind a suite the name goes -/
def endsAs (i : Nat) (D : Ends) : Ends := { nx := fun σ H => D.nx (σ.set i none) H, rt := D.rt, bk := fun σ H => D.bk (σ.set i none) H, ct := fun σ H => D.ct (σ.set i none) H }
/-- what clauses wish, one behind the other -/
def wAll (K : PySem.W.Frag) (i : Nat) (Wout : WX) (D : Ends) : List (Value × Suite) → WX
  | [] => Wout
  | (c, ts) :: r => fun cls d σ H => ∃ b, PySem.W.exmOne K cls c = some b ∧ (b = true → ∀ a, H a = none → ts a cls d (endsAs i D) (σ.set i (some (.ref a))) H) ∧ (b = false → wAll K i Wout D r cls d σ H)
inductive AsOk (X : Cx) (n : Str) : List ExceptHandler → List (Value × Suite) → Prop
  | nil : AsOk X n [] []
  | cons {x : Str} {c : Value} {ts : Suite} {b₀ : Stmt} {suite : List Stmt} {np hp : Pos} {hds : List ExceptHandler} {l : List (Value × Suite)} (nm : Names X x c)
      (run : ∀ (a : Addr) (oe : Obj) (cls : Value) (d : Option Addr) (pn : List (Addr × Obj)), Zc cls d oe → (∃ vs, oe.data = .fields vs) → PSs (X.suite a ((a, oe) :: pn)) (b₀ :: suite) (ts a cls d)) (r : AsOk X n hds l) :
      AsOk X n (.ExceptHandler (some (.Name x np)) (some n) (b₀ :: suite) hp :: hds) ((c, ts) :: l)
section
variable {X : Cx} {n : Str} {i : Nat} {body : List Stmt} {h₀ : ExceptHandler} {hds : List ExceptHandler} {l : List (Value × Suite)} {pos : Pos} {tb : WX → TS} {Wout : WX}
theorem ps_try_all (stk : X.stack = X.env :: X.outer) (frm : X.env.frame = some X.env.locals) (nd : X.N.Nodup) (at_ : X.N[i]? = some n) (loc : X.env.kindOf n = some .local) (tk : Takes X Wout)
    (hb : ∀ (W : WX) (pn : List (Addr × Obj)) (xe : Value → Shared → Prop), Takes (X.tr pn xe) W → PassesOwn (model X.prog X.w) X.A X.env xe → PSs (X.tr pn xe) body (tb W))
    (hh : AsOk X n (h₀ :: hds) l) : PS X (.Try body (h₀ :: hds) [] [] pos) (fun D σ H => tb (wAll X.K i Wout D l) D σ H) := by
  refine ⟨fun pins s σ H D J hw => ?_⟩
  have ok := J.ok
  have frames : X.A.frames = some (X.env :: X.outer) := by rw [ok.frames, stk]
  refine wpAny_Try_except (wpAny_mono ((hb (wAll X.K i Wout D l) (X.pn ++ pins) (fun e s₁ => wpAny (model X.prog X.w) X.A (noteFrame e X.env) (fun _ s₂ => wpAny (model X.prog X.w) X.A (setFlight e none) (fun _ s₃ =>
    wpAny (model X.prog X.w) X.A (handleBy e X.env (h₀ :: hds)) (SP X pins D) X.xe s₃) X.xe s₂) X.xe s₁) (fun u s' caught => ?_) PassesOwn.looking).run [] s σ H D (J.toTry _) hw) (fun f s1 done => ?_) (fun e s1 he => he))
  · obtain ⟨a, B, sI, pins', σ', H', cls, d, rfl, J', nb, up, sky, na, os, ag, w⟩ := caught
    have J1 : Inv X pins σ' H' sI := J'.ofTry ok
    show wpAny (model X.prog X.w) X.A (noteFrame (.ref a) X.env) _ _ _
    refine Sky.land Zc.steady frames frm (show Sky B (X.env :: X.outer) a (Zc cls d) X.env.locals s'.heap by rw [← stk]; exact sky) fun h3 fl3 up3 => ?_
    have J3 : Inv X pins σ' H' { s' with heap := h3 } := J1.landed nb fl3.1 (up.trans up3) os ag
    obtain ⟨oe3, vs3, he3, hz3, hd3⟩ := fl3.there
    have nfr : a ∉ frs (X.env :: X.outer) := fun hm => by
      obtain ⟨_, o', e', hnf⟩ := fl3.2.2.1.mem hm
      rw [he3] at e'
      cases e'
      exact hnf _ hd3
    have nL : a ≠ X.env.locals := fun z => nfr (List.mem_filterMap.mpr ⟨X.env, List.mem_cons_self, by rw [frm, z]⟩)
    have nF : a ∉ X.fs := fun hm => by
      obtain ⟨e, he, q⟩ := List.mem_filterMap.mp hm
      exact nfr (List.mem_filterMap.mpr ⟨e, List.mem_cons_of_mem _ he, q⟩)
    have S3 := J3.suite he3 hd3 na nL nF
    have go : ∀ {hs' : List ExceptHandler} {l' : List (Value × Suite)}, AsOk X n hs' l' → wAll X.K i Wout D l' cls d σ' H' →
        wpAny (model X.prog X.w) X.A (handleBy (.ref a) X.env hs') (SP X pins D) X.xe { s' with heap := h3 } := by
      intro hs' l' hk
      induction hk with
      | nil =>
        intro w
        refine wpAny_handleBy_nil ?_
        obtain ⟨k1, k2, k3, oe, vs, T, oT, ts', he, hz, hd, h1, hr⟩ := id fl3
        unfold PySem.passOn
        refine wpAny_bind (wpAny_field he hd h1 ?_)
        rw [if_neg (show ¬ ((Value.ref T == Value.none) = true) from by simp)]
        have last : wpAny (model X.prog X.w) X.A (setFlight (.ref a) X.env.frame) (fun _ s4 => wpAny (model X.prog X.w) X.A (throw (.ref a) : Sem Flow) (SP X pins D) X.xe s4) X.xe { s' with heap := h3 } := by
          rw [frm]
          refine HandSPX.setFlight_upZ fl3 fun h4 hh4 up4 => wpAny_throw (tk _ _ ?_)
          exact ⟨a, B, sI, pins, σ', H', cls, d, rfl, J1, nb, (up.trans up3).trans up4, .inr (.inr (by rw [stk]; exact hh4)), na, os, ag, w⟩
        first
          | exact wpAny_bind (wpAny_pure (wpAny_bind last))
          | exact wpAny_bind last
      | @cons x c ts b₀ suite np hp hds2 l2 nm run r ih =>
        intro w
        obtain ⟨b, hb1, yes, no⟩ := w
        refine wpAny_handleBy_cons (codeAny_handlers_test ?_) (by intro q; cases q)
        have looks : PySem.W.Looks (model X.prog X.w) h3 (typeOf (.ref a)) cls := fun A Q E s k q => wpAny_typeOf_ref (k _ _ he3) (by rw [hz3.1]; exact q)
        have meets := PySem.W.exm_one (M := model X.prog X.w) (J3.kIn) looks hb1
        have test : ∀ {Q : Value → Shared → Prop} {E : Value → Shared → Prop}, Q c { s' with heap := h3 } → wpAny (model X.prog X.w) (X.A.mark (some (.ref a))) (eval (.Name x np) X.env) Q E { s' with heap := h3 } := fun {Q E} q => by
          obtain ⟨gl, dbg, hm | ⟨hm, hv, hnn⟩⟩ := nm
          · exact ld_glob (X := X.suite a ((a, oe3) :: (X.pn ++ pins))) S3 gl hm q dbg
          · exact ld_blt (X := X.suite a ((a, oe3) :: (X.pn ++ pins))) S3 gl hm hv q hnn dbg
        refine test (meets.here ?_)
        cases b with
        | true =>
          refine codeAny_handlers_suite_as (HandSPX.lands_againZ fl3 fun h4 fl4 up4 => ?_)
          have J4 : Inv X pins σ' H' { s' with heap := h4 } := J1.landed nb fl4.1 ((up.trans up3).trans up4) os ag
          obtain ⟨oe4, vs4, he4, hz4, hd4⟩ := fl4.there
          refine store_ok (X := X.suite a ((a, oe4) :: (X.pn ++ pins))) (v := .ref a) (J4.suite he4 hd4 na nL nF) nd at_ (.inl loc) rfl (fun s5 S5 => ?_) (.inr loc)
          refine wpAny_mono ((run a oe4 cls d (X.pn ++ pins) hz4 ⟨_, hd4⟩).run [] s5 _ H' _ S5 (yes rfl a na)) (fun f s6 hsp => ?_) (fun _ _ z => False.elim z)
          have away : ∀ {σ6 : L2.St} {H6 : Hp} {Q : Shared → Prop}, Inv (X.suite a ((a, oe4) :: (X.pn ++ pins))) [] σ6 H6 s6 → (∀ s7, Inv X pins (σ6.set i none) H6 s7 → Q s7) →
              wpAny (model X.prog X.w) X.A (do bindName X.env n .none; unbindBehindTheSuite X.env n hp) (fun _ s7 => Q s7) X.xe s6 := fun {σ6 H6 Q} S6 hq => gone_ok (S6.unsuite ok) nd at_ loc hq
          cases f with
          | next =>
            obtain ⟨σ6, H6, S6, q6⟩ := hsp
            exact away S6 fun s7 J7 => ⟨_, _, J7, q6⟩
          | brk =>
            obtain ⟨σ6, H6, S6, q6⟩ := hsp
            exact away S6 fun s7 J7 => ⟨_, _, J7, q6⟩
          | cont =>
            obtain ⟨σ6, H6, S6, q6⟩ := hsp
            exact away S6 fun s7 J7 => ⟨_, _, J7, q6⟩
          | ret u =>
            obtain ⟨v6, σ6, H6, S6, r6, q6⟩ := hsp
            exact away S6 fun s7 J7 => ⟨_, _, _, J7, r6, q6⟩
        | false =>
          show wpAny _ X.A (handleBy (.ref a) X.env hds2) _ _ _
          exact ih (no rfl)
    exact go hh w
  · cases f with
    | next =>
      obtain ⟨σ', H', J', q⟩ := done
      exact wpAny_execs_nil ⟨σ', H', J'.ofTry ok, q⟩
    | brk =>
      obtain ⟨σ', H', J', q⟩ := done
      exact ⟨σ', H', J'.ofTry ok, q⟩
    | cont =>
      obtain ⟨σ', H', J', q⟩ := done
      exact ⟨σ', H', J'.ofTry ok, q⟩
    | ret u =>
      obtain ⟨v, σ', H', J', r, q⟩ := done
      exact ⟨v, σ', H', J'.ofTry ok, r, q⟩
end
end FTR
end
section
set_option Elab.async false
set_option linter.all false
set_option maxRecDepth 100000
set_option maxHeartbeats 4000000
/-! an own error without arguments; list.count of flags -/
namespace FTR
open PySem PySem.Spec PyProof.Rows L2
section
variable {X : Cx} {C : Addr} {bmB : List Value} {B newId initId : String}
/-- C() -/
theorem pmk_own0 {x : Str} {p pos : Pos} (F : ExcBaseFacts B newId initId bmB) (q : PySem.W.excIn X.K C bmB newId = true) (gC : X.mg x = some (.ref C)) (kC : PySem.W.keepIn X.K (.ref C) = true) (r : Raises X (.ref C)) (gl : Gl X x)
    (dbg : (x == ("__debug__" : Str)) = false := by decide) : PMk X (.Call (.Name x p) [] [] pos) (fun _ H Q => Q (.ref C) none H) := by
  intro pins s0 σ H0 Q J hw
  refine wpAny_Call_Name_kw (ld_glob J gl gC ?_ dbg)
  refine PySem.W.callWith_K0 J.kIn kC ?_
  obtain ⟨bm, N, nm, qn, bs, hdct, sn, sub, ab, col, dd, k0, k1, k2, k3, k5, mN, hC, hN, hni, T⟩ := exc_obj J.kIn q
  refine wpAny_call_exc_subT F T hC hN hni (fun h' e hm => ?_) (Nat.zero_le _)
  exact mk_of J hm r hw (J.hok.gone hm.new)
theorem all_flags : ∀ bs : List Bool, (bs.map PyData.bool).all Shape.bool.has = true
  | [] => rfl
  | b :: bs => by rw [List.map_cons, List.all_cons, all_flags bs]; rfl
theorem count_flags (k : Bool) : ∀ bs : List Bool, countIn (.bool k) (bs.map PyData.bool) = ((bs.count k : Nat) : Int)
  | [] => rfl
  | b :: bs => by
    rw [List.map_cons, countIn, count_flags k bs, List.count_cons]
    cases k <;> cases b <;> simp [same, Int.add_comm]
theorem dp_flags (K : PySem.W.Frag) (H : Hp) : ∀ bs : List Bool, DpAll K H (bs.map V.bl) (bs.map PyData.bool)
  | [] => .nil
  | b :: bs => .cons (.bl b) (dp_flags K H bs)
/-- flags.count(k) -/
def rCntB (K : PySem.W.Frag) : V → List V → Hp → VK → Prop := fun x xs H Q => ∃ (a : Addr) (bs : List Bool) (k : Bool), x = .ref a ∧ xs = [.bl k] ∧ SqL K H a (bs.map V.bl) ∧ Q (.int ((bs.count k : Nat) : Int)) H
theorem mt_countB : MtR X "list.count" (rCntB X.K) := by
  intro pins s σ H x xs v us Q J rx rxs hw
  obtain ⟨a, bs, k, rfl, rfl, hs, q⟩ := hw
  cases rx
  obtain ⟨u, rfl, ru⟩ := vals1 rxs
  cases (show u = Value.bool k from ru)
  obtain ⟨its, rv, hl, _⟩ := J.list hs
  obtain ⟨as, hr⟩ := Dp.readsAll J _ _ _ (dp_flags X.K H bs) rv
  refine count_list_bools hl.isList hr (all_flags bs) ?_
  rw [count_flags]
  exact ⟨.int ((bs.count k : Nat) : Int), H, J.tok _, ⟨_, rfl⟩, q⟩
end
end FTR
end
section
set_option Elab.async false
set_option linter.all false
set_option maxRecDepth 100000
set_option maxHeartbeats 4000000
/-! what the walks of all defs speak of -/
namespace FTW
open PySem PySem.Spec PyProof.Rows L2 FTR
open FT (Tx Gr aget aput)
/-! ### the text by places -/
def top (i : Nat) : Stmt := PySem.Challenge.pw_struckpieces_k10_whole_free_texts.main.body.getD i (.Pass ⟨0, 0, 0, 0⟩)
/-! ### one def as it stands -/
structure Df (K : PySem.W.Frag) (mg : Str → Option Value) (st : Stmt) (nm : Str) (ps : List Str) (f : Addr) (fd : FuncData) : Prop where
  F : Fun K nm nm st f fd
  b : Binds K fd ps []
  g : mg nm = some (.ref f)
def Has (P : Program) (w : World) (K : PySem.W.Frag) (mg : Str → Option Value) (base : Heap) (CX : CXT) (k : Nat) (st : Stmt) (nm : Str) (ps : List Str) (sp : Sp) : Prop :=
  ∃ f fd, Df K mg st nm ps f fd ∧ FnOk P w K mg base CX k f fd ps sp
/-- the built-ins that are called are still so -/
structure Bt (mg : Str → Option Value) : Prop where
  len : mg "len" = none
  rng : mg "range" = none
  isi : mg "isinstance" = none
  str : mg "str" = none
  all : mg "all" = none
  tup : mg "tuple" = none
  int : mg "int" = none
  bool : mg "bool" = none
  any : mg "any" = none
  sorted : mg "sorted" = none
  set : mg "set" = none
  enum : mg "enumerate" = none
  sum : mg "sum" = none
  max : mg "max" = none
  min : mg "min" = none
  abs : mg "abs" = none
  list : mg "list" = none
/-! ### texts as keys -/
abbrev kx (w : Tx) : Key := .inr (SX.S w)
theorem kx_inj {a b : Tx} : kx a = kx b ↔ a = b := ⟨fun h => SX.S_inj (Sum.inr.inj h), fun h => by rw [h]⟩
theorem tx_inj {a b : Tx} : tx a = tx b ↔ a = b := ⟨fun h => SX.S_inj (V.str.inj h), fun h => by rw [h]⟩
def dk {β : Type} (f : β → V) (l : List (Tx × β)) : List (Key × V) := l.map fun p => (kx p.1, f p.2)
theorem dk_len {β : Type} (f : β → V) (l : List (Tx × β)) : (dk f l).length = l.length := by simp [dk]
theorem valV_dk {β : Type} (f : β → V) (k : Tx) : ∀ l : List (Tx × β), valV (dk f l) (kx k) = (aget l k).map f
  | [] => rfl
  | p :: l => by
    rw [FT.aget_cons]
    by_cases h : p.1 = k
    · rw [if_pos h]
      exact valV_pos (show kx p.1 = kx k by rw [h])
    · rw [if_neg h]
      exact (valV_neg fun e => h (kx_inj.mp e)).trans (valV_dk f k l)
theorem any_dk {β : Type} (f : β → V) (k : Tx) (l : List (Tx × β)) : ((dk f l).any fun kv => decide (kv.1 = kx k)) = l.any fun p => decide (p.1 = k) := by
  unfold dk
  rw [List.any_map]
  congr 1
  funext p
  show decide (kx p.1 = kx k) = decide (p.1 = k)
  rw [decide_eq_decide]
  exact kx_inj
theorem putK_dk {β : Type} (f : β → V) (k : Tx) (v : β) (l : List (Tx × β)) : putK (dk f l) (kx k) (f v) = dk f (aput l k v) := by
  unfold putK aput
  rw [any_dk]
  split
  · unfold dk
    rw [List.map_map, List.map_map]
    refine List.map_congr_left fun p _ => ?_
    show (if kx p.1 = kx k then _ else _) = _
    by_cases h : p.1 = k
    · simp [h]
    · have : ¬ kx p.1 = kx k := fun e => h (kx_inj.mp e)
      simp [h]
  · simp [dk]
theorem dk_get {β : Type} {f : β → V} {l : List (Tx × β)} {i : Nat} {k : Key} {v : V} (h : (dk f l)[i]? = some (k, v)) : ∃ w b, l[i]? = some (w, b) ∧ k = kx w ∧ v = f b := by
  unfold dk at h
  rw [List.getElem?_map] at h
  cases e : l[i]? with
  | none => rw [e] at h; cases h
  | some p =>
    rw [e] at h
    cases h
    exact ⟨p.1, p.2, rfl, rfl, rfl⟩
/-! ### heaps -/
theorem SqT.same {K : PySem.W.Frag} {H H' : Hp} {a : Addr} {xs : List V} (e : Same H H') (h : SqT K H a xs) : SqT K H' a xs := by
  rcases h with (h | ⟨o, h⟩) | h
  · exact .inl (.inl (e _ _ h))
  · exact .inl (.inr ⟨o, e _ _ h⟩)
  · exact .inr h
theorem Same.new {H H' : Hp} {a : Addr} {o : HO} (s : Same H H') (h : H a = none) : Same H (upd H' a o) := fun b u e => by
  rw [upd_ne (ne_of_none e h)]
  exact s b u e
theorem Same.upd {H : Hp} {a : Addr} {o : HO} (h : H a = none) : Same H (upd H a o) := Same.new (Same.refl H) h
theorem rd_same {H H' : Hp} {a : Addr} {u : HO} (e : Same H H') (h : Rd H a u) : Rd H' a u := by
  rcases h with h | ⟨o, h⟩
  · exact .inl (e _ _ h)
  · exact .inr ⟨o, e _ _ h⟩
/-- in front of a lock, behind it -/
theorem Same.unlock {H H' : Hp} {d : Addr} {u v : HO} (h : H d = some u) (s : Same (L2.upd H d v) H') : Same H (L2.upd H' d u) := fun b o e => by
  by_cases hb : b = d
  · subst hb
    rw [h] at e
    cases e
    exact upd_same
  · rw [upd_ne hb]
    exact s b o (by rw [upd_ne hb]; exact e)
/-! ### a book -/
structure Pcs (P : List Tx) : Prop where
  some : P ≠ []
  few : P.length ≤ 12
  nd : P.Nodup
  ne : ∀ p ∈ P, p ≠ []
  len : ∀ p ∈ P, p.length ≤ 8
  let_ : ∀ p ∈ P, ∀ c ∈ p, 97 ≤ c ∧ c ≤ 104
def BookAt (K : PySem.W.Frag) (C : Addr) (H : Hp) (b : Addr) (P : List Tx) : Prop :=
  ∃ dx t, H b = some (.ins C dx [("pieces", .ref t)]) ∧ H t = some (.tup (P.map tx))
theorem BookAt.same {K : PySem.W.Frag} {C : Addr} {H H' : Hp} {b : Addr} {P : List Tx} (s : Same H H') (h : BookAt K C H b P) : BookAt K C H' b P := by
  obtain ⟨dx, t, h1, h2⟩ := h
  exact ⟨dx, t, s _ _ h1, s _ _ h2⟩
/-- the own letters: those that stand in pieces, in order -/
def Own (P : List Tx) (own : List Nat) : Prop := own.Pairwise (· < ·) ∧ ∀ c, c ∈ own ↔ ∃ p ∈ P, c ∈ p
theorem sorted_one : ∀ {a b : List Nat}, a.Pairwise (· < ·) → b.Pairwise (· < ·) → (∀ c, c ∈ a ↔ c ∈ b) → a = b
  | [], [], _, _, _ => rfl
  | [], y :: b, _, _, h => absurd ((h y).mpr List.mem_cons_self) (by simp)
  | x :: a, [], _, _, h => absurd ((h x).mp List.mem_cons_self) (by simp)
  | x :: a, y :: b, ha, hb, h => by
    rw [List.pairwise_cons] at ha hb
    have e : x = y := by
      rcases List.mem_cons.mp ((h x).mp List.mem_cons_self) with e | h1
      · exact e
      · rcases List.mem_cons.mp ((h y).mpr List.mem_cons_self) with e | h2
        · exact e.symm
        · have := hb.1 x h1
          have := ha.1 y h2
          omega
    subst e
    congr 1
    refine sorted_one ha.2 hb.2 fun c => ?_
    have k := h c
    simp only [List.mem_cons] at k
    constructor
    · intro hc
      rcases k.mp (.inr hc) with e | h
      · have := ha.1 c hc
        omega
      · exact h
    · intro hc
      rcases k.mpr (.inr hc) with e | h
      · have := hb.1 c hc
        omega
      · exact h
theorem Own.one {P : List Tx} {a b : List Nat} (ha : Own P a) (hb : Own P b) : a = b := sorted_one ha.1 hb.1 fun c => (ha.2 c).trans (hb.2 c).symm
theorem Own.len {P : List Tx} {own : List Nat} (p : Pcs P) (h : Own P own) : own.length ≤ 8 := by
  have nd : own.Nodup := h.1.imp fun z => Nat.ne_of_lt z
  have := FT.nodup_len nd (m := List.range' 97 8) fun c hc => by
    obtain ⟨q, hq, hm⟩ := (h.2 c).mp hc
    have := p.let_ q hq c hm
    rw [List.mem_range'_1]
    omega
  simpa using this
end FTW
end
section
set_option Elab.async false
set_option linter.all false
set_option maxRecDepth 100000
set_option maxHeartbeats 4000000
/-! loops and comprehensions over whatever is walked -/
namespace FTW
open PySem PySem.Spec PyProof.Rows L2 FTR
theorem blT {Q : VK} {H : Hp} {p : Prop} {d : Decidable p} (hp : p) (k : Q (.bl true) H) : Q (.bl (@decide p d)) H := by
  rw [decide_eq_true hp]
  exact k
theorem blF {Q : VK} {H : Hp} {p : Prop} {d : Decidable p} (hp : ¬ p) (k : Q (.bl false) H) : Q (.bl (@decide p d)) H := by
  rw [decide_eq_false hp]
  exact k
theorem blE {Q : VK} {H : Hp} {a b : Bool} (e : a = b) (k : Q (.bl b) H) : Q (.bl a) H := by
  rw [e]
  exact k
theorem ifT {p A B : Prop} {d : Decidable p} (hp : p) (k : A) : if @decide p d = true then A else B := by
  rw [decide_eq_true hp]
  exact iteT k
theorem ifF {p A B : Prop} {d : Decidable p} (hp : ¬ p) (k : B) : if @decide p d = true then A else B := by
  rw [decide_eq_false hp]
  exact iteF k
theorem ifE {a b : Bool} {A B : Prop} (e : a = b) (k : if b = true then A else B) : if a = true then A else B := by
  rw [e]
  exact k
theorem yes_of {σ : L2.St} {H : Hp} {A B : Hp → Prop} (h : A H) : tYes σ H fun b H3 => if b = true then A H3 else B H3 := iteT (A := A H) (B := B H) h
section
variable {J : It} {g : TG} {tt : TT} {te : TE} {tb : TS} {D0 : Ends} {vs : List Nat} {σ : L2.St} {H1 : Hp} {D : Addr} {Qd : Hp → Prop}
theorem for_walk (n : Nat) (Pv : Nat → L2.St → Hp → Prop) (h0 : Pv 0 σ H1) (go : ∀ i σ H, i < n → Pv i σ H → J.go i H) (stop : ∀ σ H, Pv n σ H → J.stop n H)
    (hs : ∀ i x σ H H', i < n → Pv i σ H → J.yld i H x H' → g x σ H' fun σ2 H2 => tb { D0 with nx := Pv (i + 1), ct := Pv (i + 1), bk := D0.nx } σ2 H2) (hd : ∀ σ H, Pv n σ H → D0.nx σ H) :
    ∃ W : Nat → Nat → L2.St → Hp → Prop, (∃ m, W 0 m σ H1) ∧ ∀ i m σ H, W i m σ H →
      (J.stop i H ∧ D0.nx σ H) ∨ (J.go i H ∧ ∃ N : L2.St → Hp → Prop, (∀ σ' H', N σ' H' → ∃ m', m' < m ∧ W (i + 1) m' σ' H') ∧ ∀ x H', J.yld i H x H' → g x σ H' fun σ2 H2 => tb { D0 with nx := N, ct := N, bk := D0.nx } σ2 H2) := by
  refine ⟨fun i m σ H => m = n - i ∧ i ≤ n ∧ Pv i σ H, ⟨n, by simp, Nat.zero_le _, h0⟩, ?_⟩
  rintro i m σ H ⟨rfl, hi, p⟩
  by_cases hlt : i < n
  · exact .inr ⟨go i σ H hlt p, Pv (i + 1), fun σ' H' p' => ⟨n - (i + 1), by omega, rfl, hlt, p'⟩, fun x H' y => hs i x σ H H' hlt p y⟩
  · have e : i = n := by omega
    subst e
    exact .inl ⟨stop σ H p, hd σ H p⟩
theorem lc_walk (n : Nat) (Pv : Nat → Hp → Prop) (h0 : Pv 0 (upd H1 D (.lst []))) (go : ∀ i H, i < n → Pv i H → J.go i H) (stop : ∀ H, Pv n H → J.stop n H)
    (hs : ∀ i x H H', i < n → Pv i H → J.yld i H x H' → g x (wipe σ vs) H' fun σ2 H2 => wipe σ2 vs = wipe σ vs ∧ tt σ2 H2 fun b H3 =>
      if b = true then te σ2 H3 fun y H4 => ∃ acc, H4 D = some (.lst acc) ∧ acc.length < sizeLine ∧ Pv (i + 1) (upd H4 D (.lst (acc ++ [y]))) else Pv (i + 1) H3) (hd : ∀ H, Pv n H → Qd H) :
    ∃ W : Nat → Nat → Hp → Prop, (∃ m, W 0 m (upd H1 D (.lst []))) ∧ ∀ i m H, W i m H →
      (J.stop i H ∧ Qd H) ∨ (J.go i H ∧ ∃ Nx : Hp → Prop, (∀ H', Nx H' → ∃ m', m' < m ∧ W (i + 1) m' H') ∧ ∀ x H', J.yld i H x H' → g x (wipe σ vs) H' fun σ2 H2 => wipe σ2 vs = wipe σ vs ∧ tt σ2 H2 fun b H3 =>
        if b = true then te σ2 H3 fun y H4 => ∃ acc, H4 D = some (.lst acc) ∧ acc.length < sizeLine ∧ Nx (upd H4 D (.lst (acc ++ [y]))) else Nx H3) := by
  refine ⟨fun i m H => m = n - i ∧ i ≤ n ∧ Pv i H, ⟨n, by simp, Nat.zero_le _, h0⟩, ?_⟩
  rintro i m H ⟨rfl, hi, p⟩
  by_cases hlt : i < n
  · exact .inr ⟨go i H hlt p, Pv (i + 1), fun H' p' => ⟨n - (i + 1), by omega, rfl, hlt, p'⟩, fun x H' y => hs i x H H' hlt p y⟩
  · have e : i = n := by omega
    subst e
    exact .inl ⟨stop H p, hd H p⟩
theorem upd_upd {H : Hp} {a : Addr} {o o' : HO} : upd (upd H a o) a o' = upd H a o' := by
  funext b
  unfold L2.upd
  split <;> rfl
/-- the step leaves the heap as it is: acc i is what the new list holds in front of turn i -/
theorem lc_acc (n : Nat) (acc : Nat → List V) (a0 : acc 0 = []) (go : ∀ i, i < n → J.go i (upd H1 D (.lst (acc i)))) (stop : J.stop n (upd H1 D (.lst (acc n))))
    (hs : ∀ i x H', i < n → J.yld i (upd H1 D (.lst (acc i))) x H' → g x (wipe σ vs) H' fun σ2 H2 => wipe σ2 vs = wipe σ vs ∧ tt σ2 H2 fun b H3 =>
      if b = true then te σ2 H3 fun y H4 => ∃ ac, H4 D = some (.lst ac) ∧ ac.length < sizeLine ∧ upd H4 D (.lst (ac ++ [y])) = upd H1 D (.lst (acc (i + 1))) else H3 = upd H1 D (.lst (acc (i + 1)))) (hd : Qd (upd H1 D (.lst (acc n)))) :
    ∃ W : Nat → Nat → Hp → Prop, (∃ m, W 0 m (upd H1 D (.lst []))) ∧ ∀ i m H, W i m H →
      (J.stop i H ∧ Qd H) ∨ (J.go i H ∧ ∃ Nx : Hp → Prop, (∀ H', Nx H' → ∃ m', m' < m ∧ W (i + 1) m' H') ∧ ∀ x H', J.yld i H x H' → g x (wipe σ vs) H' fun σ2 H2 => wipe σ2 vs = wipe σ vs ∧ tt σ2 H2 fun b H3 =>
        if b = true then te σ2 H3 fun y H4 => ∃ acc, H4 D = some (.lst acc) ∧ acc.length < sizeLine ∧ Nx (upd H4 D (.lst (acc ++ [y]))) else Nx H3) :=
  lc_walk n (fun i H => H = upd H1 D (.lst (acc i))) (by rw [a0]) (fun i H hi e => by rw [e]; exact go i hi) (fun H e => by rw [e]; exact stop) (fun i x H H' hi e y => by subst e; exact hs i x H' hi y) (fun H e => by rw [e]; exact hd)
theorem lc_all (n : Nat) (acc : Nat → List V) (a0 : acc 0 = []) (go : ∀ i, i < n → J.go i (upd H1 D (.lst (acc i)))) (stop : J.stop n (upd H1 D (.lst (acc n))))
    (hs : ∀ i x H', i < n → J.yld i (upd H1 D (.lst (acc i))) x H' → g x (wipe σ vs) H' fun σ2 H2 => wipe σ2 vs = wipe σ vs ∧
      te σ2 H2 fun y H4 => ∃ ac, H4 D = some (.lst ac) ∧ ac.length < sizeLine ∧ upd H4 D (.lst (ac ++ [y])) = upd H1 D (.lst (acc (i + 1)))) (hd : Qd (upd H1 D (.lst (acc n))))
    (mg : ∀ x σ H Q Q', (∀ σ2 H2, Q σ2 H2 → Q' σ2 H2) → g x σ H Q → g x σ H Q' := by intro _ _ _ _ _ k h; exact k _ _ h) :
    ∃ W : Nat → Nat → Hp → Prop, (∃ m, W 0 m (upd H1 D (.lst []))) ∧ ∀ i m H, W i m H →
      (J.stop i H ∧ Qd H) ∨ (J.go i H ∧ ∃ Nx : Hp → Prop, (∀ H', Nx H' → ∃ m', m' < m ∧ W (i + 1) m' H') ∧ ∀ x H', J.yld i H x H' → g x (wipe σ vs) H' fun σ2 H2 => wipe σ2 vs = wipe σ vs ∧ tYes σ2 H2 fun b H3 =>
        if b = true then te σ2 H3 fun y H4 => ∃ acc, H4 D = some (.lst acc) ∧ acc.length < sizeLine ∧ Nx (upd H4 D (.lst (acc ++ [y]))) else Nx H3) :=
  lc_acc n acc a0 go stop (fun i x H' hi y => mg _ _ _ _ _ (fun σ2 H2 q => ⟨q.1, yes_of q.2⟩) (hs i x H' hi y)) hd
theorem lc_allW (n : Nat) (Pv : Nat → Hp → Prop) (h0 : Pv 0 (upd H1 D (.lst []))) (go : ∀ i H, i < n → Pv i H → J.go i H) (stop : ∀ H, Pv n H → J.stop n H)
    (hs : ∀ i x H H', i < n → Pv i H → J.yld i H x H' → g x (wipe σ vs) H' fun σ2 H2 => wipe σ2 vs = wipe σ vs ∧
      te σ2 H2 fun y H4 => ∃ acc, H4 D = some (.lst acc) ∧ acc.length < sizeLine ∧ Pv (i + 1) (upd H4 D (.lst (acc ++ [y])))) (hd : ∀ H, Pv n H → Qd H)
    (mg : ∀ x σ H Q Q', (∀ σ2 H2, Q σ2 H2 → Q' σ2 H2) → g x σ H Q → g x σ H Q' := by intro _ _ _ _ _ k h; exact k _ _ h) :
    ∃ W : Nat → Nat → Hp → Prop, (∃ m, W 0 m (upd H1 D (.lst []))) ∧ ∀ i m H, W i m H →
      (J.stop i H ∧ Qd H) ∨ (J.go i H ∧ ∃ Nx : Hp → Prop, (∀ H', Nx H' → ∃ m', m' < m ∧ W (i + 1) m' H') ∧ ∀ x H', J.yld i H x H' → g x (wipe σ vs) H' fun σ2 H2 => wipe σ2 vs = wipe σ vs ∧ tYes σ2 H2 fun b H3 =>
        if b = true then te σ2 H3 fun y H4 => ∃ acc, H4 D = some (.lst acc) ∧ acc.length < sizeLine ∧ Nx (upd H4 D (.lst (acc ++ [y]))) else Nx H3) :=
  lc_walk n Pv h0 go stop (fun i x H H' hi p y => mg _ _ _ _ _ (fun σ2 H2 q => ⟨q.1, yes_of q.2⟩) (hs i x H H' hi p y)) hd
theorem lc_end {a a' : List V} {y : V} (hz : a.length < sizeLine) (e : a' = a ++ [y]) : ∃ ac, (upd H1 D (.lst a)) D = some (.lst ac) ∧ ac.length < sizeLine ∧ upd (upd H1 D (.lst a)) D (.lst (ac ++ [y])) = upd H1 D (.lst a') :=
  ⟨a, upd_same, hz, by rw [upd_upd, e]⟩
theorem seq_updL {K : PySem.W.Frag} {H : Hp} {D t : Addr} {o : HO} {xs : List V} (new : H D = none) (h : SqL K H t xs) : SqL K (upd H D o) t xs := (FTW.Same.upd new).seq h
theorem seq_updT {K : PySem.W.Frag} {H : Hp} {D t : Addr} {o : HO} {xs : List V} (new : H D = none) (h : SqT K H t xs) : SqT K (upd H D o) t xs := SqT.same (FTW.Same.upd new) h
theorem take_map_succ {α β : Type} {l : List α} {f : α → β} {i : Nat} {a : α} (h : l[i]? = some a) : (l.take (i + 1)).map f = (l.take i).map f ++ [f a] := by
  rw [List.take_add_one, h, List.map_append]
  rfl
theorem big_lt {n : Nat} (h : n ≤ 100000) : n < sizeLine := by
  rw [sizeLine_eq]
  omega
/-- [.. for x in tuple], nothing else changed -/
theorem lc_mapT {α : Type} {K : PySem.W.Frag} {t : Addr} (l : List α) (c f : α → V) (ht : SqT K H1 t (l.map c)) (new : H1 D = none) (sz : l.length ≤ 100000)
    (hs : ∀ (i : Nat) a, l[i]? = some a → ∀ acc, acc.length < sizeLine → g (c a) (wipe σ vs) (upd H1 D (.lst acc)) fun σ2 H2 => wipe σ2 vs = wipe σ vs ∧
      te σ2 H2 fun y H4 => ∃ ac, H4 D = some (.lst ac) ∧ ac.length < sizeLine ∧ upd H4 D (.lst (ac ++ [y])) = upd H1 D (.lst (acc ++ [f a]))) (hd : Qd (upd H1 D (.lst (l.map f))))
    (mg : ∀ x σ H Q Q', (∀ σ2 H2, Q σ2 H2 → Q' σ2 H2) → g x σ H Q → g x σ H Q' := by intro _ _ _ _ _ k h; exact k _ _ h) :
    ∃ W : Nat → Nat → Hp → Prop, (∃ m, W 0 m (upd H1 D (.lst []))) ∧ ∀ i m H, W i m H →
      ((Itt K t).stop i H ∧ Qd H) ∨ ((Itt K t).go i H ∧ ∃ Nx : Hp → Prop, (∀ H', Nx H' → ∃ m', m' < m ∧ W (i + 1) m' H') ∧ ∀ x H', (Itt K t).yld i H x H' → g x (wipe σ vs) H' fun σ2 H2 => wipe σ2 vs = wipe σ vs ∧ tYes σ2 H2 fun b H3 =>
        if b = true then te σ2 H3 fun y H4 => ∃ acc, H4 D = some (.lst acc) ∧ acc.length < sizeLine ∧ Nx (upd H4 D (.lst (acc ++ [y]))) else Nx H3) := by
  have at_ : ∀ (i : Nat) a, l[i]? = some a → (l.map c)[i]? = some (c a) := fun i a e => by rw [List.getElem?_map, e]; rfl
  refine lc_all l.length (fun i => (l.take i).map f) rfl (fun i hi => ⟨_, _, seq_updT new ht, at_ i _ (List.getElem?_eq_getElem hi)⟩) ⟨_, seq_updT new ht, by simp⟩ (fun i x H' hi y => ?_) (by simpa using hd) (mg := mg)
  obtain ⟨rfl, y⟩ := y
  have e := y _ (seq_updT new ht)
  have e' := List.getElem?_eq_getElem hi
  rw [at_ i _ e'] at e
  cases e
  have := hs i _ e' ((l.take i).map f) (big_lt (by simp; omega))
  rw [← take_map_succ (f := f) e'] at this
  exact this
theorem lc_mapL {α : Type} {K : PySem.W.Frag} {t : Addr} (l : List α) (c f : α → V) (ht : SqL K H1 t (l.map c)) (new : H1 D = none) (sz : l.length ≤ 100000)
    (hs : ∀ (i : Nat) a, l[i]? = some a → ∀ acc, acc.length < sizeLine → g (c a) (wipe σ vs) (upd H1 D (.lst acc)) fun σ2 H2 => wipe σ2 vs = wipe σ vs ∧
      te σ2 H2 fun y H4 => ∃ ac, H4 D = some (.lst ac) ∧ ac.length < sizeLine ∧ upd H4 D (.lst (ac ++ [y])) = upd H1 D (.lst (acc ++ [f a]))) (hd : Qd (upd H1 D (.lst (l.map f))))
    (mg : ∀ x σ H Q Q', (∀ σ2 H2, Q σ2 H2 → Q' σ2 H2) → g x σ H Q → g x σ H Q' := by intro _ _ _ _ _ k h; exact k _ _ h) :
    ∃ W : Nat → Nat → Hp → Prop, (∃ m, W 0 m (upd H1 D (.lst []))) ∧ ∀ i m H, W i m H →
      ((Itl K t).stop i H ∧ Qd H) ∨ ((Itl K t).go i H ∧ ∃ Nx : Hp → Prop, (∀ H', Nx H' → ∃ m', m' < m ∧ W (i + 1) m' H') ∧ ∀ x H', (Itl K t).yld i H x H' → g x (wipe σ vs) H' fun σ2 H2 => wipe σ2 vs = wipe σ vs ∧ tYes σ2 H2 fun b H3 =>
        if b = true then te σ2 H3 fun y H4 => ∃ acc, H4 D = some (.lst acc) ∧ acc.length < sizeLine ∧ Nx (upd H4 D (.lst (acc ++ [y]))) else Nx H3) := by
  have at_ : ∀ (i : Nat) a, l[i]? = some a → (l.map c)[i]? = some (c a) := fun i a e => by rw [List.getElem?_map, e]; rfl
  refine lc_all l.length (fun i => (l.take i).map f) rfl (fun i hi => ⟨_, _, seq_updL new ht, at_ i _ (List.getElem?_eq_getElem hi)⟩) ⟨_, seq_updL new ht, by simp⟩ (fun i x H' hi y => ?_) (by simpa using hd) (mg := mg)
  obtain ⟨rfl, y⟩ := y
  have e := y _ (seq_updL new ht)
  have e' := List.getElem?_eq_getElem hi
  rw [at_ i _ e'] at e
  cases e
  have := hs i _ e' ((l.take i).map f) (big_lt (by simp; omega))
  rw [← take_map_succ (f := f) e'] at this
  exact this
/-- [.. for c in text] -/
theorem lc_mapS (x : List Nat) (f : Nat → V) (sz : x.length ≤ 100000)
    (hs : ∀ (i : Nat) a, x[i]? = some a → ∀ acc, acc.length < sizeLine → g (tx [a]) (wipe σ vs) (upd H1 D (.lst acc)) fun σ2 H2 => wipe σ2 vs = wipe σ vs ∧
      te σ2 H2 fun y H4 => ∃ ac, H4 D = some (.lst ac) ∧ ac.length < sizeLine ∧ upd H4 D (.lst (ac ++ [y])) = upd H1 D (.lst (acc ++ [f a]))) (hd : Qd (upd H1 D (.lst (x.map f))))
    (mg : ∀ x σ H Q Q', (∀ σ2 H2, Q σ2 H2 → Q' σ2 H2) → g x σ H Q → g x σ H Q' := by intro _ _ _ _ _ k h; exact k _ _ h) :
    ∃ W : Nat → Nat → Hp → Prop, (∃ m, W 0 m (upd H1 D (.lst []))) ∧ ∀ i m H, W i m H →
      ((Its (SX.S x)).stop i H ∧ Qd H) ∨ ((Its (SX.S x)).go i H ∧ ∃ Nx : Hp → Prop, (∀ H', Nx H' → ∃ m', m' < m ∧ W (i + 1) m' H') ∧ ∀ v H', (Its (SX.S x)).yld i H v H' → g v (wipe σ vs) H' fun σ2 H2 => wipe σ2 vs = wipe σ vs ∧ tYes σ2 H2 fun b H3 =>
        if b = true then te σ2 H3 fun y H4 => ∃ acc, H4 D = some (.lst acc) ∧ acc.length < sizeLine ∧ Nx (upd H4 D (.lst (acc ++ [y]))) else Nx H3) := by
  refine lc_all x.length (fun i => (x.take i).map f) rfl (fun i hi => by show i < x.toArray.size; simpa using hi) (by show x.toArray.size ≤ x.length; simp) (fun i v H' hi y => ?_) (by simpa using hd) (mg := mg)
  obtain ⟨rfl, c, hc, rfl⟩ := y
  have e' : x[i]? = some c := by simpa using hc
  have := hs i _ e' ((x.take i).map f) (big_lt (by simp; omega))
  rw [← take_map_succ (f := f) e'] at this
  exact this
end
theorem Same.keep {H H' : Hp} {a : Addr} {o o' : HO} (s : Same H H') (h : H a = none) (e : H' a = some o) : Same H (L2.upd H' a o') := Same.new s h
/-! ### short words for calls of built-ins -/
section
variable {X : Cx} {e : Expr} {te : TE} {p pos : Pos}
abbrev rLen (K : PySem.W.Frag) : List V → Hp → VK → Prop := fun xs H Q => ∃ x n, xs = [x] ∧ LenV K x H n ∧ Q (.int n) H
theorem pLen (T : Bt X.mg) (h : PE X e te) (gl : Gl X "len" := by rfl) (hs : starEach [e] X.env = (false, eval e X.env) :: starEach [] X.env := by rfl) :
    PE X (.Call (.Name "len" p) [e] [] pos) (tCB (rLen X.K) (tCons te tNil)) := pe_callB (he := hs) call_len gl T.len PySem.boot_len (pa_cons (hs := hs) h pa_nil)
theorem pAll (T : Bt X.mg) (calm : X.calm = true) (h : PE X e te) (gl : Gl X "all" := by rfl) (hs : starEach [e] X.env = (false, eval e X.env) :: starEach [] X.env := by rfl) :
    PE X (.Call (.Name "all" p) [e] [] pos) (tCB (rAll X.K) (tCons te tNil)) := pe_callB (he := hs) (cr_all calm) gl T.all (by decide +kernel) (pa_cons (hs := hs) h pa_nil)
theorem pAny (T : Bt X.mg) (calm : X.calm = true) (h : PE X e te) (gl : Gl X "any" := by rfl) (hs : starEach [e] X.env = (false, eval e X.env) :: starEach [] X.env := by rfl) :
    PE X (.Call (.Name "any" p) [e] [] pos) (tCB (rAny X.K) (tCons te tNil)) := pe_callB (he := hs) (cr_any calm) gl T.any (by decide +kernel) (pa_cons (hs := hs) h pa_nil)
theorem pMax (T : Bt X.mg) (calm : X.calm = true) (h : PE X e te) (gl : Gl X "max" := by rfl) (hs : starEach [e] X.env = (false, eval e X.env) :: starEach [] X.env := by rfl) :
    PE X (.Call (.Name "max" p) [e] [] pos) (tCB (rMax X.K) (tCons te tNil)) := pe_callB (he := hs) (cr_max calm) gl T.max (by decide +kernel) (pa_cons (hs := hs) h pa_nil)
/-- isinstance(x, T), T built in -/
def rIsB (K : PySem.W.Frag) (n : String) : List V → Hp → VK → Prop := fun xs H Q => ∃ (x : V) (t : String) (b : Bool), xs = [x, .ty n] ∧ TyX K H x (.type t) ∧ kitB t n = some b ∧ Q (.bl b) H
theorem pIsi {n : Str} {ty : String} {p2 : Pos} (T : Bt X.mg) (h : PE X e te) (nn : X.mg n = none) (hb : bootBuiltins n = some (.type ty)) (gl : Gl X "isinstance" := by rfl) (gn : Gl X n := by rfl) (n1 : n ≠ "__name__" := by decide) (n2 : (n == ("__debug__" : Str)) = false := by decide)
    (hs : starEach [e, .Name n p2] X.env = (false, eval e X.env) :: starEach [.Name n p2] X.env := by rfl) (hs2 : starEach [.Name n p2] X.env = [(false, eval (.Name n p2) X.env)] := by rfl) :
    PE X (.Call (.Name "isinstance" p) [e, .Name n p2] [] pos) (tCB (rIsB X.K ty) (tCons te (tCons (tC (.ty ty)) tNil))) := by
  have c : CallR X (.builtin "isinstance") (rIsB X.K ty) := by
    intro pins s σ H xs us Q I r hh
    obtain ⟨x, t, b, e, h1, h2, q⟩ := hh
    exact call_isi pins s σ H xs us Q I r ⟨x, .ty ty, .type t, .type ty, b, e, .ty ty, h1, kit_ty h2, q⟩
  exact pe_callB (he := hs) c gl T.isi (by decide +kernel) (pa_cons (hs := hs) h (pa_cons (hs := hs2) (pe_bltn gn nn hb (show RelV (V.ty ty) (Value.type ty) from rfl) n1 n2) pa_nil))
end
end FTW
end
section
set_option Elab.async false
set_option linter.all false
set_option maxRecDepth 100000
set_option maxHeartbeats 4000000
/-! enumerate(tuple) -/
namespace FTR
open PySem PySem.Spec PyProof.Rows L2
set_option maxHeartbeats 1000000 in
theorem meets_enum_one {v : Value} {o : Obj} {H : Heap → Prop} (B : Begins v o H) :
    Meets (Builtin.«enumerate.__new__» ⟨[.type "enumerate", v], []⟩) (fun _ R s => H s.heap ∧
      R (.ok (.ret (.ref (s.heap.push o).objs.size))) { s with heap := (s.heap.push o).push { cls := .type "enumerate", data := .fields #[.none, .bool false, .ref s.heap.objs.size, rawInt 0, .none, .none] } }) :=
  .of_wp fun prog w A R s h => by
    obtain ⟨hp, g, d, tk, os⟩ := s; obtain ⟨h1, h⟩ := h
    have sub := sub_enumerate
    have q1 : ∀ {A' : Around} {E : Value → Shared → Prop} {Q : Value → Shared → Prop}, Q (.ref hp.objs.size) ⟨hp.push o, g, d, tk, os⟩ → wpAny (model prog w) A' (pyIter v) Q E ⟨hp, g, d, tk, os⟩ :=
      fun q => B.iter prog w _ _ ⟨hp, g, d, tk, os⟩ _ h1 q
    wp_walk using q1
    refine wpAny_stack_any fun st => wpAny_pure ?_
    split
    · rename_i c _ _ _ _ _
      cases (c == Value.type "enumerate")
      · wp_walk using q1
        exact ⟨_, rfl, h⟩
      · wp_walk using q1
        exact ⟨_, rfl, h⟩
    · wp_walk using q1
      exact ⟨_, rfl, h⟩
section
variable {prog : Program} {w : World} {A : Around} {E : Value → Shared → Prop} {s : Shared}
theorem enum_one {v : Value} {o : Obj} {H : Heap → Prop} {Q : Value → Shared → Prop} (B : Begins v o H) (h1 : H s.heap)
    (h : ∀ h', IsEnum h' (s.heap.objs.size + 1) s.heap.objs.size 0 .none → h'.get? s.heap.objs.size = some o → h'.objs.size = s.heap.objs.size + 2 →
      (∀ b o, s.heap.get? b = some o → h'.get? b = some o) → Q (.ref (s.heap.objs.size + 1)) { s with heap := h' }) :
    wpAny (model prog w) A (call (.type "enumerate") [v]) Q E s := by
  refine callType_new F.called_enumerate (by decide) (F.typeCall_enumerate_1 _) (F.newCall_enumerate_1 _) (fun obj => F.args_object_init_2 obj _) F.entry_enumerate_new
    (meets_enum_one B) ⟨h1, ?_⟩
  have sz : (s.heap.push o).objs.size = s.heap.objs.size + 1 := Heap.size_push ..
  show _ ∧ _
  rw [sz]
  have he : IsEnum ((s.heap.push o).push { cls := .type "enumerate", data := .fields #[.none, .bool false, .ref s.heap.objs.size, rawInt 0, .none, .none] }) (s.heap.objs.size + 1) s.heap.objs.size 0 .none := by
    have := Heap.get?_push_size (s.heap.push o) (o := { cls := .type "enumerate", data := .fields #[.none, .bool false, .ref s.heap.objs.size, rawInt 0, .none, .none] }) rfl
    rw [sz] at this; exact this
  exact ⟨⟨_, he, rfl⟩, h _ he (Heap.get?_push_of_some _ (Heap.get?_push_size _ B.free)) (by rw [Heap.size_push, sz]) fun b o x => Heap.get?_push_of_some _ (Heap.get?_push_of_some _ x)⟩
end
/-- the tuple at a, each item in a new pair -/
def ItE (K : PySem.W.Frag) (a : Addr) (n : Nat) : It :=
  ⟨fun i H => i < n ∧ ∃ xs : List V, SqT K H a xs ∧ xs.length = n, fun i H v H' => ∃ T x, v = .ref T ∧ H T = none ∧ H' = upd H T (.tup [.int (i : Nat), x]) ∧ ∀ xs, SqT K H a xs → xs[i]? = some x, fun i H => i = n ∧ ∃ xs : List V, SqT K H a xs ∧ xs.length = n⟩
theorem turn_enumT {P : Program} {w : World} {K : PySem.W.Frag} {elts : List Expr} {kk : Nat} {tpos : Pos} (a e it : Addr) (n : Nat) :
    Turn P w K (.Tuple elts kk tpos) (ItE K a n) [e, it] e (fun i h => (∃ old, IsEnum h e it ((i : Nat) : Int) old) ∧ h.IsTupleIter it a i ∧ e ≠ it) where
  mem := by simp
  obj := fun i h st b hb => by
    obtain ⟨⟨old, he⟩, ⟨o, ho, hc, hd⟩, _⟩ := st
    have e' : b = e ∨ b = it := by simpa using hb
    rcases e' with z | z
    · rw [z]; exact ⟨_, he, fun v q => nomatch q⟩
    · rw [z]; exact ⟨o, ho, fun v q => by rw [hd] at q; cases q⟩
  keep := fun i h h' st k => let ⟨⟨old, he⟩, hi, ne⟩ := st; ⟨⟨old, k e (by simp) _ he⟩, hi.at fun o q => k it (by simp) o q, ne⟩
  item := by
    intro X hP hw hK calm i pins s σ H E I hf st hg
    subst hP hw hK
    obtain ⟨⟨old, he⟩, hit, ne⟩ := st
    obtain ⟨hin, xs, hq, hx⟩ := hg
    obtain ⟨its, rv, p, hz⟩ := I.tuple hq
    have hl := rv.length
    have hel : e < s.heap.objs.size := Heap.lt_size he
    have hil : it < s.heap.objs.size := by obtain ⟨_, q, _⟩ := hit; exact Heap.lt_size q
    have nta : a ≠ it := fun z => by
      obtain ⟨o, q, c, _⟩ := p
      obtain ⟨o2, q2, c2, _⟩ := hit
      rw [z, q2] at q
      cases q
      rw [c2] at c
      exact absurd c (by decide)
    have nte : e ≠ a := fun z => by
      obtain ⟨o, q, c, _⟩ := p
      have q2 : s.heap.get? e = _ := he
      rw [z, q] at q2
      cases q2
      have c' : Value.type "enumerate" = Value.type "tuple" := c
      exact absurd c' (by decide)
    refine wpAny_pyNext_enum_itemD (Draws.tuple (A := X.A.in1) (I.ok.hd calm) it a nta its.toArray) he ⟨hit, p⟩ (by simp; omega) ne (by simp [ne, nte]) fun u h' tk hu ho hit' hT sz hk => ?_
    have hu' : its[i]? = some u := by simpa using hu
    have hix : i < xs.length := by omega
    have ru : RelV xs[i] u := by
      obtain ⟨u', h1, h2⟩ := rv.get (show xs[i]? = some xs[i] by simp [hix])
      rw [hu'] at h1
      cases h1
      exact h2
    refine ⟨_, rfl, wpAny_letOwnedTupleGo_enum (s := { s with heap := h', toks := tk + 1 }) ho fun h'' he' sb => ?_⟩
    have hT2 : h''.get? s.heap.objs.size = some { cls := .type "tuple", data := .seq #[.int i tk, u] } := (sb.2 _ (Nat.ne_of_gt hel)).trans hT
    have new : ObjOk X.prog X.w (upd H s.heap.objs.size (.tup [.int (i : Nat), xs[i]])) h'' s.heap.objs.size (.tup [.int (i : Nat), xs[i]]) :=
      ⟨by show 2 ≤ sizeLine; decide, [.int i tk, u], .cons ⟨_, rfl⟩ (.cons ru .nil), ⟨_, hT2, rfl, _, rfl⟩⟩
    have I1 : Inv X pins σ (upd H s.heap.objs.size (.tup [.int (i : Nat), xs[i]])) { s with heap := h'', toks := tk + 1 } :=
      I.turnedNew (ch := [e, it]) (fun b ob hb q => (sb.2 b (fun z => hb (by simp [z]))).trans (hk b ob (fun z => hb (by simp [z])) (fun z => hb (by simp [z])) q)) hf (Nat.le_refl _) new
    refine ⟨.ref s.heap.objs.size, _, I1, rfl, ⟨_, xs[i], rfl, I.hok.fresh (Nat.le_refl _), rfl, fun ys hy => ?_⟩, ⟨⟨u, ?_⟩, hit'.1.at fun o q => (sb.2 it (Ne.symm ne)).trans q, ne⟩, fun b hb => ?_⟩
    · rw [I.tuple_inj hy hq]; simp [hix]
    · have e1 : ((i + 1 : Nat) : Int) = (i : Int) + 1 := by omega
      rw [e1]; exact he'
    · have hb' : b < s.heap.objs.size := by
        have e' : b = e ∨ b = it := by simpa using hb
        rcases e' with z | z
        · rw [z]; exact hel
        · rw [z]; exact hil
      rw [upd_ne (Nat.ne_of_lt hb')]
      exact (hf b hb).1
  done := by
    intro X hP hw hK calm i pins s σ H E I hf st hg
    subst hP hw hK
    obtain ⟨⟨old, he⟩, hit, ne⟩ := st
    obtain ⟨rfl, xs, hq, hx⟩ := hg
    obtain ⟨its, rv, p, hz⟩ := I.tuple hq
    obtain ⟨f0, f1, f2, f3, f4, f5⟩ := hf it (by simp)
    have hl := rv.length
    have nta : a ≠ it := fun z => by
      obtain ⟨o, q, c, _⟩ := p
      obtain ⟨o2, q2, c2, _⟩ := hit
      rw [z, q2] at q
      cases q
      rw [c2] at c
      exact absurd c (by decide)
    have sz : i = its.toArray.size := by simp; omega
    subst sz
    exact wpAny_pyNext_enum_endD (Draws.tuple (A := X.A.in1) (I.ok.hd calm) it a nta its.toArray) he ⟨hit, p⟩ fun h' eb => ⟨rfl, I.turned (t' := s.toks) (fun b o hb q => eb b o hb q) f0 f1 f3 f4 f5⟩
  self := fun A i s Q E st h => let ⟨⟨_, he⟩, _⟩ := st; wpAny_pyIter_enum he h
def iEnumT (K : PySem.W.Frag) (ta : TA) : TI := fun σ H R => ta σ H fun vs H1 => ∃ a xs, vs = [.ref a] ∧ SqT K H1 a xs ∧ R (ItE K a xs.length) H1
theorem pi_enumT {X : Cx} {e : Expr} {ta : TA} {p pos tpos : Pos} {elts : List Expr} {kk : Nat} (gl : Gl X "enumerate") (nm : X.mg "enumerate" = none) (ha : PA X [e] ta) (hs : starEach [e] X.env = [(false, eval e X.env)] := by rfl) :
    PI X (.Tuple elts kk tpos) (.Call (.Name "enumerate" p) [e] [] pos) (iEnumT X.K ta) := by
  refine ⟨fun pins s σ H R I h => ?_⟩
  refine Call_ (ld_blt I gl nm boot_enumerate (PyProof.Rows.callWith_type1 (thn (ha.run pos pins s σ H _ I h) fun us s1 ⟨vs, H1, I1, r1, q1⟩ => ?_) hs rfl))
  obtain ⟨a, xs, ex, hq, q⟩ := q1
  subst ex
  cases r1 with
  | cons r rr =>
    cases rr
    cases r
    obtain ⟨its, rv, p', hz⟩ := I1.tuple hq
    refine enum_one (begins_tuple a its.toArray) p' fun h' he hit sz hk => wpAny_pyIter_enum he ?_
    have I2 : Inv X pins σ H1 { s1 with heap := h' } := I1.kept (t' := s1.toks) hk
    refine ⟨s1.heap.objs.size + 1, [s1.heap.objs.size + 1, s1.heap.objs.size], _, _, H1, rfl, I2, turn_enumT a (s1.heap.objs.size + 1) s1.heap.objs.size xs.length, ⟨⟨.none, he⟩, ⟨_, hit, rfl, rfl⟩, Nat.succ_ne_self _⟩, fun b hb => ?_, q⟩
    have e' : b = s1.heap.objs.size + 1 ∨ b = s1.heap.objs.size := by simpa using hb
    have hle : s1.heap.objs.size ≤ b := by
      rcases e' with z | z
      · rw [z]; exact Nat.le_add_right _ _
      · rw [z]; exact Nat.le_refl _
    exact I1.fpOk hle (I1.hok.fresh hle)
end FTR
end
section
set_option Elab.async false
set_option linter.all false
set_option maxRecDepth 100000
set_option maxHeartbeats 4000000
/-! the small defs of the program -/
namespace FTW
open PySem PySem.Spec PyProof.Rows L2 FTR
open FT (Tx Gr aget aput)
abbrev sIsLog : Stmt := top 10
abbrev sIsPiece : Stmt := top 11
abbrev sIsInt : Stmt := top 16
abbrev sWithin : Stmt := top 17
abbrev sCheckN : Stmt := top 18
theorem scIsLog : FnScope ["thing", "sign"] ["thing"] (defScope sIsLog) := ⟨rfl, rfl, rfl, by decide +kernel, rfl, by decide +kernel, by decide +kernel⟩
theorem scIsPiece : FnScope ["thing"] ["thing"] (defScope sIsPiece) := ⟨rfl, rfl, rfl, by decide +kernel, rfl, by decide +kernel, by decide +kernel⟩
theorem scIsInt : FnScope ["thing"] ["thing"] (defScope sIsInt) := ⟨rfl, rfl, rfl, by decide +kernel, rfl, by decide +kernel, by decide +kernel⟩
theorem scWithin : FnScope ["thing", "least", "most"] ["thing", "least", "most"] (defScope sWithin) := ⟨rfl, rfl, rfl, by decide +kernel, rfl, by decide +kernel, by decide +kernel⟩
/-- what a text over a to h is -/
def spIsLog : Sp := fun vs H Q _ => ∃ w : Tx, vs = [tx w] ∧ (∀ c ∈ w, 97 ≤ c ∧ c ≤ 104) ∧ w.length ≤ 1000 ∧ ∀ H', Same H H' → Q (.bl true) H'
def spIsPiece : Sp := fun vs H Q _ => ∃ w : Tx, vs = [tx w] ∧ (∀ c ∈ w, 97 ≤ c ∧ c ≤ 104) ∧ w ≠ [] ∧ w.length ≤ 8 ∧ ∀ H', Same H H' → Q (.bl true) H'
theorem in_letters {c : Nat} (h : 97 ≤ c ∧ c ≤ 104) : decide (c ∈ (SX.S [97, 98, 99, 100, 101, 102, 103, 104]).cps.toList) = true := by
  refine decide_eq_true ?_
  show c ∈ [97, 98, 99, 100, 101, 102, 103, 104]
  have : c = 97 ∨ c = 98 ∨ c = 99 ∨ c = 100 ∨ c = 101 ∨ c = 102 ∨ c = 103 ∨ c = 104 := by omega
  simp only [List.mem_cons, List.not_mem_nil, or_false]
  exact this
theorem letters_S : ("abcdefgh" : Str) = SX.S [97, 98, 99, 100, 101, 102, 103, 104] := by decide +kernel
theorem all_true (n : Nat) : (List.replicate n true).all id = true := by simp [List.all_eq_true]
theorem map_rep (n : Nat) : (List.replicate n true).map V.bl = List.replicate n (V.bl true) := List.map_replicate
/-- no whole number -/
def NotInt (K : PySem.W.Frag) (H : Hp) (x : V) : Prop := ∃ t, TyX K H x (.type t) ∧ (t = "bool" ∨ t = "NoneType" ∨ t = "str" ∨ t = "tuple")
def spIsInt (K : PySem.W.Frag) : Sp := fun vs H Q _ => ∃ x, vs = [x] ∧ ((∃ n, x = .int n ∧ Q (.bl true) H) ∨ (NotInt K H x ∧ Q (.bl false) H))
def spWithin (K : PySem.W.Frag) : Sp := fun vs H Q _ => ∃ x a b, vs = [x, .int a, .int b] ∧ ((∃ n, x = .int n ∧ Q (.bl (decide (a ≤ n ∧ n ≤ b))) H) ∨ (NotInt K H x ∧ Q (.bl false) H))
def spCheckN (K : PySem.W.Frag) (N : Addr) : Sp := fun vs H Q E => ∃ x a b, vs = [x, .int a, .int b] ∧ ((∃ n, x = .int n ∧ a ≤ n ∧ n ≤ b ∧ Q .non H) ∨ ((NotInt K H x ∨ ∃ n, x = .int n ∧ ¬ (a ≤ n ∧ n ≤ b)) ∧ E (.ref N) none H))
/-- an own error without an __init__ of its own -/
structure Ex0 (K : PySem.W.Frag) (mg : Str → Option Value) (nm : Str) (C : Addr) : Prop where
  g : mg nm = some (.ref C)
  x : PySem.W.excIn K C [.type "ValueError", .type "Exception", .type "BaseException", .type "object"] "ValueError.__new__" = true
  k : PySem.W.keepIn K (.ref C) = true
  b : PySem.W.subIn K (.ref C) (.type "BaseException") = some true
  t : PySem.W.typeIn K (.ref C) = some (.type "type")
section
variable {P : Program} {w : World} {K : PySem.W.Frag} {mg : Str → Option Value} {base : Heap}
theorem ok_isLog {f : Addr} {fd : FuncData} (F : Fun K "is_log" "is_log" sIsLog f fd) (T : Bt mg) {t : Tok} (gL : mg "LETTERS" = some (.str "abcdefgh" t)) : FnOk P w K mg base CX0 1 f fd ["thing"] spIsLog := by
  refine F.ok scIsLog (fun vs H Q E h => ?_) (fun cdv A outer s H vs Q E hr h => ?_)
  · obtain ⟨a, rfl, _⟩ := h
    rfl
  · obtain ⟨x, rfl, hx, hl, k⟩ := h
    refine ⟨_, pss_one (ps_ret (pe_and (pIsi T (pv 0) T.str PyProof.Rows.boot_str) (pe_one (pAll T rfl
      (pe_lc (own := [("sign", 1)]) (g := gName 1) (tt := tYes) rfl scIsLog.nd (pi_str (pv 0)) (blkOk_by (N := ["thing", "sign"]) (sc := defScope sIsLog) (by decide +kernel)) (fun _ _ _ _ _ => pg_name (i := 1) scIsLog.nd rfl (Or.inl rfl)) (fun _ _ _ _ _ => pts_nil)
        (fun _ _ _ _ _ => pe_cmpR op_in_sign (pv 1) (pe_glob (v := .str "abcdefgh") rfl gL ⟨_, rfl⟩) rfl)))))), ?_⟩
    refine ⟨_, rfl, _, "str", true, rfl, .base (.str _), by decide +kernel, _, rfl, iteT ?_⟩
    refine ⟨_, rfl, _, rfl, fun D new => lc_all x.length (fun i => List.replicate i (V.bl true)) rfl (fun i hi => ?_) ?_ (fun i y H' hi q => ?_) ?_⟩
    · show i < x.toArray.size
      simpa using hi
    · show x.toArray.size ≤ x.length
      simp
    · obtain ⟨rfl, c, hc, rfl⟩ := q
      have hc' : x[i]? = some c := by simpa using hc
      have hm : c ∈ x := List.mem_of_getElem? hc'
      refine ⟨rfl, _, rfl, c, _, rfl, rfl, ?_⟩
      rw [letters_S, in_letters (hx c hm)]
      exact lc_end (by simp; exact small1000 (by omega)) List.replicate_succ'
    · refine ⟨D, List.replicate x.length true, rfl, .inl (.inl ?_), ?_⟩
      · rw [upd_same, map_rep]
      · rw [all_true]
        exact k _ (Same.upd new)
theorem ok_isPiece {f : Addr} {fd : FuncData} (F : Fun K "is_piece" "is_piece" sIsPiece f fd) (T : Bt mg) {t : Tok} (gM : mg "MOST_LONG" = some (.int 8 t)) (hL : Has P w K mg base CX0 1 sIsLog "is_log" ["thing"] spIsLog) : FnOk P w K mg base CX0 2 f fd ["thing"] spIsPiece := by
  obtain ⟨fL, fdL, DL, GL⟩ := hL
  refine F.ok scIsPiece (fun vs H Q E h => ?_) (fun cdv A outer s H vs Q E hr h => ?_)
  · obtain ⟨a, rfl, _⟩ := h
    rfl
  · obtain ⟨x, rfl, hx, hn, hl, k⟩ := h
    refine ⟨_, pss_one (ps_ret (pe_and (pe_call GL hr rfl DL.g DL.F.kp DL.b .nil pass0 (pa_cons (pv 0) pa_nil)) (pe_one (pe_chain op_le op_le pe_int (pLen T (pv 0)) (pe_glob (v := .int 8) rfl gM ⟨_, rfl⟩))))), ?_⟩
    refine ⟨_, rfl, x, rfl, hx, by omega, fun H1 S1 => ⟨_, rfl, iteT ?_⟩⟩
    have hl1 : 0 < x.length := List.length_pos_iff.mpr hn
    refine ⟨_, rfl, _, x.length, rfl, ⟨by rw [SX.S_len]; exact Nat.le_of_lt (small1000 (by omega)), (SX.S_len x).symm⟩, _, _, rfl, rfl, _, rfl, ?_⟩
    refine ifT (by omega) ⟨_, _, rfl, rfl, blT (Q := Q) (by omega) (k _ S1)⟩
theorem ok_isInt {f : Addr} {fd : FuncData} (F : Fun K "is_integer" "is_integer" sIsInt f fd) (T : Bt mg) : FnOk P w K mg base CX0 1 f fd ["thing"] (spIsInt K) := by
  refine F.ok scIsInt (fun vs H Q E h => ?_) (fun cdv A outer s H vs Q E hr h => ?_)
  · obtain ⟨a, rfl, _⟩ := h
    rfl
  · obtain ⟨x, rfl, h⟩ := h
    refine ⟨_, pss_one (ps_ret (pe_and (pIsi T (pv 0) T.int PyProof.Rows.boot_int) (pe_one (pe_not (pIsi T (pv 0) T.bool PyProof.Rows.boot_bool))))), ?_⟩
    rcases h with ⟨n, rfl, k⟩ | ⟨⟨t, ht, c⟩, k⟩
    · exact ⟨_, rfl, _, "int", true, rfl, .base (.int _), by decide +kernel, _, rfl, iteT ⟨_, rfl, _, "int", false, rfl, .base (.int _), by decide +kernel, _, rfl, k⟩⟩
    · rcases c with rfl | rfl | rfl | rfl
      · exact ⟨_, rfl, _, _, true, rfl, ht, by decide +kernel, _, rfl, iteT ⟨_, rfl, _, _, true, rfl, ht, by decide +kernel, _, rfl, k⟩⟩
      · exact ⟨_, rfl, _, _, false, rfl, ht, by decide +kernel, _, rfl, iteF k⟩
      · exact ⟨_, rfl, _, _, false, rfl, ht, by decide +kernel, _, rfl, iteF k⟩
      · exact ⟨_, rfl, _, _, false, rfl, ht, by decide +kernel, _, rfl, iteF k⟩
theorem ok_within {f : Addr} {fd : FuncData} (F : Fun K "is_within" "is_within" sWithin f fd) (hI : Has P w K mg base CX0 1 sIsInt "is_integer" ["thing"] (spIsInt K)) : FnOk P w K mg base CX0 2 f fd ["thing", "least", "most"] (spWithin K) := by
  obtain ⟨fI, fdI, DI, GI⟩ := hI
  refine F.ok scWithin (fun vs H Q E h => ?_) (fun cdv A outer s H vs Q E hr h => ?_)
  · obtain ⟨x, a, b, rfl, _⟩ := h
    rfl
  · obtain ⟨x, a, b, rfl, h⟩ := h
    refine ⟨_, pss_one (ps_ret (pe_and (pe_call GI hr rfl DI.g DI.F.kp DI.b .nil pass0 (pa_cons (pv 0) pa_nil)) (pe_one (pe_chain op_le op_le (pv 1) (pv 0) (pv 2))))), ?_⟩
    rcases h with ⟨n, rfl, k⟩ | ⟨c, k⟩
    · refine ⟨_, rfl, _, rfl, .inl ⟨n, rfl, _, rfl, iteT ⟨_, rfl, _, rfl, _, _, rfl, rfl, _, rfl, ?_⟩⟩⟩
      by_cases h1 : a ≤ n
      · exact ifT h1 ⟨_, rfl, _, _, rfl, rfl, blE (Q := Q) (decide_eq_decide.mpr ⟨fun h => ⟨h1, h⟩, fun h => h.2⟩) k⟩
      · rw [decide_eq_false (fun h => h1 h.1)] at k
        exact ifF h1 k
    · exact ⟨_, rfl, _, rfl, .inr ⟨c, _, rfl, iteF k⟩⟩
theorem scCheckN : FnScope ["thing", "least", "most"] ["thing", "least", "most"] (defScope sCheckN) := ⟨rfl, rfl, rfl, by decide +kernel, rfl, by decide +kernel, by decide +kernel⟩
theorem ok_checkN {f N : Addr} {fd : FuncData} (F : Fun K "check_number" "check_number" sCheckN f fd) (X0 : Ex0 K mg "NoNumber" N) (hI : Has P w K mg base CX0 2 sWithin "is_within" ["thing", "least", "most"] (spWithin K)) : FnOk P w K mg base (L2.CX P w) 3 f fd ["thing", "least", "most"] (spCheckN K N) := by
  obtain ⟨fI, fdI, DI, GI⟩ := hI
  refine F.okX scCheckN (fun vs H Q E h => ?_) (fun cdv A outer s H vs Q E hr h => ?_)
  · obtain ⟨x, a, b, rfl, _⟩ := h
    rfl
  · obtain ⟨x, a, b, rfl, h⟩ := h
    refine ⟨_, pss_one (ps_if (pt_not (pt_val (pe_call GI hr rfl DI.g DI.F.kp DI.b .nil pass0 (pa_cons (pv 0) (pa_cons (pv 1) (pa_cons (pv 2) pa_nil))))))
      (pss_one (ps_raise rfl (takes_of rfl rfl rfl rfl) (pmk_own0 PySem.F.excBase_ValueError X0.x X0.g X0.k (raises_own X0.b X0.t) rfl))) pss_nil), ?_⟩
    rcases h with ⟨n, rfl, h1, h2, k⟩ | ⟨c, k⟩
    · refine ⟨_, rfl, _, rfl, _, rfl, _, a, b, rfl, .inl ⟨n, rfl, _, rfl, ?_⟩⟩
      rw [decide_eq_true ⟨h1, h2⟩]
      exact iteF k
    · rcases c with c | ⟨n, rfl, c⟩
      · exact ⟨_, rfl, _, rfl, _, rfl, _, a, b, rfl, .inr ⟨c, _, rfl, iteT k⟩⟩
      · refine ⟨_, rfl, _, rfl, _, rfl, _, a, b, rfl, .inl ⟨n, rfl, _, rfl, ?_⟩⟩
        rw [decide_eq_false c]
        exact iteT k
/-! ### a book -/
abbrev sInit : Stmt := inClass (top 12) 0
theorem scInit : FnScope ["self", "pieces", "number", "piece"] ["self", "pieces"] (defScope sInit) := ⟨rfl, rfl, rfl, by decide +kernel, rfl, by decide +kernel, by decide +kernel⟩
def spInit (K : PySem.W.Frag) (C : Addr) : Sp := fun vs H Q _ => ∃ (H0 : Hp) (b dx t : Addr) (P : List Tx), vs = [.ref b, .ref t] ∧ Pcs P ∧ H0 t = some (.tup (P.map tx)) ∧ H b = some (.ins C dx []) ∧ H0 b = none ∧ Same H0 H ∧
  ∀ H', Same H0 H' → BookAt K C H' b P → Q .non H'
theorem inV_tx {p : Tx} {l : List Tx} (h : p ∉ l) : inV (tx p) (l.map tx) = false := by
  unfold inV
  rw [List.any_eq_false]
  intro y hy
  obtain ⟨q, hq, rfl⟩ := List.mem_map.mp hy
  show ¬ ((SX.S q == SX.S p) = true)
  rw [SX.S_beq_eq, decide_eq_true_eq]
  intro e
  exact h (e ▸ hq)
theorem flat_tx (l : List Tx) : (l.map tx).all flatV = true := by
  rw [List.all_eq_true]
  intro y hy
  obtain ⟨q, _, rfl⟩ := List.mem_map.mp hy
  rfl
theorem sIx_nat (n d i : Nat) : HT.sIx n d (some (i : Int)) = min i n := by
  unfold HT.sIx
  have h : ¬ ((i : Int) < 0) := by omega
  simp [h]
theorem cut_to {xs : List V} {i : Nat} (h : i < xs.length) : cutV xs none (some (i : Int)) = xs.take i := by
  unfold cutV
  have e1 : HT.sIx xs.length 0 none = 0 := rfl
  have e2 : HT.sIx xs.length xs.length (some (i : Int)) = i := by
    rw [sIx_nat]
    omega
  rw [e1, e2]
  simp
theorem ok_init {f C : Addr} {fd : FuncData} (F : Fun K "__init__" "Book.__init__" sInit f fd) (T : Bt mg) {t : Tok} (gM : mg "MOST_PIECES" = some (.int 12 t)) (cl : Cls K C) (nP : NoAttr K C "pieces")
    (hP : Has P w K mg base CX0 2 sIsPiece "is_piece" ["thing"] spIsPiece) : FnOk P w K mg base CX0 3 f fd ["self", "pieces"] (spInit K C) := by
  obtain ⟨fP, fdP, DP, GP⟩ := hP
  refine F.ok scInit (fun vs H Q E h => ?_) (fun cdv A outer s H vs Q E hr h => ?_)
  · obtain ⟨_, _, _, _, _, rfl, _⟩ := h
    rfl
  · obtain ⟨H0, b, dx, t, L, rfl, pc, ht0, hb, hb0, s0, k⟩ := h
    have ht : H t = some (.tup (L.map tx)) := s0 _ _ ht0
    have ll : 0 < L.length := List.length_pos_iff.mpr pc.some
    have lf := pc.few
    refine ⟨_, pss_cons (ps_if (PW.pt (pw_or (pt_not (pt_val (pIsi T (pv 1) T.tup PyProof.Rows.boot_tuple))) (pw_or1 (pt_not (pt_chain op_le op_le pe_int (pLen T (pv 1)) (pe_glob (v := .int 12) rfl gM ⟨_, rfl⟩)))))) (pss_one ps_never) pss_nil)
      (pss_cons (ps_for PassesOwn.never rfl (pi_enumT rfl T.enum (pa_cons (pv 1) pa_nil)) (pg_tup rfl (pgs_cons (pg_name (i := 2) scInit.nd rfl (Or.inl rfl)) (pgs_cons (pg_name (i := 3) scInit.nd rfl (Or.inl rfl)) pgs_nil)))
        (pss_one (ps_if (PW.pt (pw_or (pt_not (pt_val (pe_call GP hr rfl DP.g DP.F.kp DP.b .nil pass0 (pa_cons (pv 3) pa_nil)))) (pw_or1 (pt_cmpR op_in_seq (pv 3) (pe_slice sl_tupA (pv 1) po_none (po_some (pv 2))) rfl)))) (pss_one ps_never) pss_nil)))
      (pss_one (ps_fld (pv 0) (pv 1) rfl))), ?_⟩
    refine ⟨_, rfl, _, "tuple", true, rfl, .base (.tup ht), by decide +kernel, _, rfl, iteF ?_⟩
    refine ⟨_, rfl, _, L.length, rfl, .inr ⟨_, SqT.of ht, by simp⟩, _, _, rfl, rfl, _, rfl, ifT (by omega) ⟨_, _, rfl, rfl, _, rfl, ?_⟩⟩
    rw [decide_eq_true (by omega : ((L.length : Nat) : Int) ≤ 12)]
    refine iteF ⟨_, rfl, t, _, rfl, SqT.of ht, for_walk L.length (fun i σ H' => Same H H' ∧ ∃ a c, σ = [some (.ref b), some (.ref t), a, c]) ⟨Same.refl _, _, _, rfl⟩ (fun i σ H' hi q => ?_) (fun σ H' q => ?_) ?_ ?_⟩
    · exact ⟨by simpa using hi, _, SqT.of (q.1 _ _ ht), rfl⟩
    · exact ⟨by simp, _, SqT.of (q.1 _ _ ht), rfl⟩
    · rintro i y σ H1 H2 hi ⟨S1, a, c, rfl⟩ ⟨p, x, rfl, np, rfl, hx⟩
      have e : (L.map tx)[i]? = some x := hx _ (SqT.of (S1 _ _ ht))
      have hi' : i < L.length := hi
      obtain rfl : tx L[i] = x := by
        rw [List.getElem?_map, List.getElem?_eq_getElem hi'] at e
        exact Option.some.inj e
      have hm : L[i] ∈ L := List.getElem_mem hi'
      have S2 : Same H (upd H1 p (.tup [.int (i : Nat), tx L[i]])) := Same.new S1 (S1.free np)
      refine ⟨p, _, rfl, SqT.of upd_same, rfl, _, _, rfl, _, _, rfl, rfl, ?_⟩
      refine ⟨_, rfl, _, rfl, pc.let_ _ hm, pc.ne _ hm, pc.len _ hm, fun H3 S3 => ⟨_, rfl, iteF ?_⟩⟩
      have S4 := S2.trans S3
      refine ⟨_, rfl, _, rfl, _, rfl, _, rfl, t, _, rfl, SqT.of (S4 _ _ ht), fun z => ?_, fun _ q nq => ?_⟩
      · have z2 := z.2
        rw [sIx_nat, List.length_map] at z2
        omega
      · rw [cut_to (by simpa using hi'), ← List.map_take]
        refine ⟨q, (L.take i).map tx, rfl, .inr (SqT.of upd_same), rfl, flat_tx _, _, rfl, ?_⟩
        have nin : L[i] ∉ L.take i := fun z => by
          obtain ⟨j, hj, e⟩ := List.mem_take_iff_getElem.mp z
          have hj' : j < i := by omega
          have := (List.getElem_inj pc.nd).mp e
          omega
        rw [inV_tx nin]
        exact iteF ⟨Same.new S4 (S4.free nq), _, _, rfl⟩
    · rintro σ H1 ⟨S1, a, c, rfl⟩
      have hb1 : H1 b = some (.ins C dx []) := S1 _ _ hb
      refine ⟨_, rfl, _, rfl, b, C, dx, [], rfl, hb1, cl, nP, (by show 0 < 1000; decide), ?_⟩
      exact k _ (Same.new (s0.trans S1) hb0) ⟨dx, t, upd_same, by rw [upd_ne (ne_of_none ht0 hb0)]; exact s0.trans S1 _ _ ht0⟩
end
end FTW
end
section
set_option Elab.async false
set_option linter.all false
set_option maxRecDepth 100000
set_option maxHeartbeats 4000000
/-! letters, what holds a piece, what is free however often -/
namespace FTW
open PySem PySem.Spec PyProof.Rows L2 FTR
open FT (Tx Gr aget aput)
abbrev sLetters : Stmt := top 13
abbrev sIsOwn : Stmt := top 14
abbrev sHolds : Stmt := top 23
abbrev sStays : Stmt := top 33
abbrev sIsEnd : Stmt := top 34
abbrev sLOwn : Stmt := top 39
abbrev sLFree : Stmt := top 47
abbrev sLIsEnd : Stmt := top 50
abbrev sLFlag : Stmt := top 51
theorem scLetters : FnScope ["book"] ["book"] (defScope sLetters) := ⟨rfl, rfl, rfl, by decide +kernel, rfl, by decide +kernel, by decide +kernel⟩
theorem scIsOwn : FnScope ["book", "thing", "own", "sign"] ["book", "thing"] (defScope sIsOwn) := ⟨rfl, rfl, rfl, by decide +kernel, rfl, by decide +kernel, by decide +kernel⟩
theorem scHolds : FnScope ["book", "text", "piece"] ["book", "text"] (defScope sHolds) := ⟨rfl, rfl, rfl, by decide +kernel, rfl, by decide +kernel, by decide +kernel⟩
theorem scStays : FnScope ["book", "front", "turned", "many", "piece"] ["book", "front", "turned"] (defScope sStays) := ⟨rfl, rfl, rfl, by decide +kernel, rfl, by decide +kernel, by decide +kernel⟩
theorem scIsEnd : FnScope ["book", "thing", "part"] ["book", "thing"] (defScope sIsEnd) := ⟨rfl, rfl, rfl, by decide +kernel, rfl, by decide +kernel, by decide +kernel⟩
theorem scLOwn : FnScope ["_law_pieces"] ["_law_pieces"] (defScope sLOwn) := ⟨rfl, rfl, rfl, by decide +kernel, rfl, by decide +kernel, by decide +kernel⟩
theorem scLFree : FnScope ["_law_pieces", "_law_text", "_law_piece"] ["_law_pieces", "_law_text"] (defScope sLFree) := ⟨rfl, rfl, rfl, by decide +kernel, rfl, by decide +kernel, by decide +kernel⟩
theorem scLIsEnd : FnScope ["_law_pieces", "_law_pair", "_law_own_here", "_law_front", "_law_turn", "_law_letter"] ["_law_pieces", "_law_pair"] (defScope sLIsEnd) := ⟨rfl, rfl, rfl, by decide +kernel, rfl, by decide +kernel, by decide +kernel⟩
theorem scLFlag : FnScope ["_law_told_here", "_law_due"] ["_law_told_here", "_law_due"] (defScope sLFlag) := ⟨rfl, rfl, rfl, by decide +kernel, rfl, by decide +kernel, by decide +kernel⟩
/-- a text of a size that is no matter -/
theorem len_flat : ∀ {P : List Tx} {m : Nat}, (∀ p ∈ P, p.length ≤ m) → P.flatten.length ≤ P.length * m
  | [], m, _ => Nat.zero_le _
  | p :: P, m, h => by
    have h1 := h p List.mem_cons_self
    have h2 := len_flat (P := P) (m := m) fun q hq => h q (List.mem_cons_of_mem _ hq)
    rw [List.flatten_cons, List.length_append, List.length_cons, Nat.succ_mul]
    omega
theorem own_of {P : List Tx} {l ys : List Nat} (h : ∀ c, c ∈ l ↔ c ∈ P.flatten) (s : ys.Pairwise (· < ·)) (p : ys.Perm l) : Own P ys := by
  refine ⟨s, fun c => ?_⟩
  rw [p.mem_iff, h c, List.mem_flatten]
theorem nil_S : ("" : Str) = SX.S [] := by decide +kernel
theorem pcs_seq {K : PySem.W.Frag} {H : Hp} {t : Addr} {P : List Tx} (ht : SqT K H t (P.map tx)) : SqT K H t ((P.map SX.S).map V.str) := by
  rw [List.map_map]
  exact ht
theorem pcs_flat {P : List Tx} (pc : Pcs P) : P.flatten.length ≤ 96 := by
  have := len_flat pc.len
  have := pc.few
  omega
theorem pcs_size {P : List Tx} (pc : Pcs P) : ((P.map SX.S).map (·.length)).sum + (P.map SX.S).length * ("" : Str).length ≤ 16777216 := by
  have := pcs_flat pc
  rw [len_sum, nil_S, SX.S_len]
  simp only [List.length_nil, Nat.mul_zero]
  omega
theorem join0 (P : List Tx) : Txt.join ("" : Str) (P.map SX.S) = SX.S P.flatten := by rw [nil_S, join_tx]
theorem pcs_few {P : List Tx} (pc : Pcs P) {l : List Nat} (hl : ∀ c, c ∈ l ↔ c ∈ P.flatten) (nd : l.Nodup) : l.length < 64 := by
  have := FT.nodup_len nd (m := List.range' 97 8) fun c hc => by
    obtain ⟨x, hx, hm⟩ := List.mem_flatten.mp ((hl c).mp hc)
    have := pc.let_ x hx c hm
    rw [List.mem_range'_1]
    omega
  simp at this
  omega
/-- ''.join of the signs -/
theorem join_signs {K : PySem.W.Frag} {H : Hp} {p : Addr} {own : List Nat} {Q : VK} (hp : H p = some (.lst (own.map fun c => tx [c]))) (few : own.length ≤ 1000) (k : Q (tx own) H) :
    ∃ a q, ∃ ys : List Str, V.str (Str.ofString "") = .str a ∧ [V.ref p] = [.ref q] ∧ (SqL K H q (ys.map V.str) ∨ SqT K H q (ys.map V.str)) ∧ (ys.map (·.length)).sum + ys.length * a.length ≤ 16777216 ∧ Q (.str (Txt.join a ys)) H := by
  have e : ("" : Str) = SX.S [] := by decide +kernel
  have fl : ∀ l : List Nat, (l.map fun c => [c]).flatten = l := fun l => by
    induction l with
    | nil => rfl
    | cons c l ih => rw [List.map_cons, List.flatten_cons, ih]; rfl
  refine ⟨_, p, (own.map fun c => [c]).map SX.S, rfl, rfl, .inl (SqL.of (by rw [hp, List.map_map, List.map_map]; rfl)), ?_, ?_⟩
  · rw [len_sum, e, fl, SX.S_len]
    simp only [List.length_nil, Nat.mul_zero]
    omega
  · rw [e, join_tx, fl]
    exact k
def spLetters (K : PySem.W.Frag) (C : Addr) : Sp := fun vs H Q _ => ∃ b P, vs = [.ref b] ∧ BookAt K C H b P ∧ Pcs P ∧ ∀ own H', Own P own → Same H H' → Q (tx own) H'
def spIsOwn (K : PySem.W.Frag) (C : Addr) : Sp := fun vs H Q _ => ∃ b P w, vs = [.ref b, tx w] ∧ BookAt K C H b P ∧ Pcs P ∧ w.length ≤ 1000 ∧ (∀ c ∈ w, ∃ p ∈ P, c ∈ p) ∧ ∀ H', Same H H' → Q (.bl true) H'
def spHolds (K : PySem.W.Frag) (C : Addr) : Sp := fun vs H Q _ => ∃ b P w, vs = [.ref b, tx w] ∧ BookAt K C H b P ∧ Pcs P ∧ ∀ H', Same H H' → Q (.bl (P.any fun p => decide (p <:+: w))) H'
def spLOwn (K : PySem.W.Frag) : Sp := fun vs H Q _ => ∃ t P, vs = [.ref t] ∧ H t = some (.tup (P.map tx)) ∧ Pcs P ∧ ∀ own H', Own P own → Same H H' → Q (tx own) H'
def spLFree (K : PySem.W.Frag) : Sp := fun vs H Q _ => ∃ t P w, vs = [.ref t, tx w] ∧ H t = some (.tup (P.map tx)) ∧ Pcs P ∧ ∀ H', Same H H' → Q (.bl (!P.any fun p => decide (p <:+: w))) H'
def spLFlag : Sp := fun vs H Q _ => ∃ a b, vs = [.bl a, .bl b] ∧ Q (.bl (decide (a = b))) H
/-- read once, then as often as one likes -/
def Ever (P : List Tx) (u r : Tx) : Prop := r ≠ [] ∧ u.length ≤ 200 ∧ r.length ≤ 200 ∧ (∀ c ∈ u, ∃ p ∈ P, c ∈ p) ∧ (∀ c ∈ r, ∃ p ∈ P, c ∈ p) ∧ ∀ k, ∀ p ∈ P, ¬ p <:+: u ++ (List.replicate k r).flatten
def spStays (K : PySem.W.Frag) (C : Addr) : Sp := fun vs H Q _ => ∃ b P u r, vs = [.ref b, tx u, tx r] ∧ BookAt K C H b P ∧ Pcs P ∧ Ever P u r ∧ ∀ H', Same H H' → Q (.bl true) H'
def spIsEnd (K : PySem.W.Frag) (C : Addr) : Sp := fun vs H Q _ => ∃ b t P u r, vs = [.ref b, .ref t] ∧ BookAt K C H b P ∧ Pcs P ∧ H t = some (.tup [tx u, tx r]) ∧ Ever P u r ∧ ∀ H', Same H H' → Q (.bl true) H'
def spLIsEnd (K : PySem.W.Frag) : Sp := fun vs H Q _ => ∃ t q P u r, vs = [.ref t, .ref q] ∧ H t = some (.tup (P.map tx)) ∧ Pcs P ∧ H q = some (.tup [tx u, tx r]) ∧ Ever P u r ∧ ∀ H', Same H H' → Q (.bl true) H'
theorem any_false {P : List Tx} {w : Tx} (h : ∀ p ∈ P, ¬ p <:+: w) : (P.any fun p => decide (p <:+: w)) = false := by
  rw [List.any_eq_false]
  intro p hp
  simpa using h p hp
theorem times_flat (r : Tx) (k : Nat) : FT.times r k = (List.replicate k r).flatten := by
  induction k with
  | zero => rfl
  | succ k ih => rw [FT.times, ih, List.replicate_succ', List.flatten_append]; simp
theorem any_map {α : Type} (l : List α) (f : α → Bool) : (l.map f).any id = l.any f := by
  rw [List.any_map]; rfl
theorem all_map {α : Type} (l : List α) (f : α → Bool) : (l.map f).all id = l.all f := by
  rw [List.all_map]; rfl
section
variable {P : Program} {w : World} {K : PySem.W.Frag} {mg : Str → Option Value} {base : Heap}
theorem ok_letters {f C : Addr} {fd : FuncData} (F : Fun K "letters" "letters" sLetters f fd) (T : Bt mg) (cl : Cls K C) (nP : NoAttr K C "pieces") : FnOk P w K mg base CX0 1 f fd ["book"] (spLetters K C) := by
  refine F.ok scLetters (fun vs H Q E h => ?_) (fun cdv A outer s H vs Q E hr h => ?_)
  · obtain ⟨_, _, rfl, _⟩ := h
    rfl
  · obtain ⟨b, L, rfl, ⟨dx, t, hb, ht⟩, pc, k⟩ := h
    refine ⟨_, pss_one (ps_ret (pe_join pe_str (pe_callB (cr_sortSg rfl) rfl T.sorted (by decide +kernel) (pa_cons (pe_callTy (cr_setTx rfl) rfl T.set (by decide +kernel) (pa_cons (pe_join pe_str (pe_fld (pv 0) rfl)) pa_nil)) pa_nil)))), ?_⟩
    refine ⟨⟨_, rfl⟩, ⟨_, rfl⟩, _, rfl, b, C, dx, _, _, rfl, hb, cl, nP, rfl, ?_⟩
    refine ⟨_, t, L.map SX.S, rfl, rfl, .inr (pcs_seq (SqT.of ht)), pcs_size pc, ?_⟩
    rw [join0]
    refine ⟨L.flatten, rfl, by have := pcs_flat pc; omega, fun p l hp nd hl => ⟨p, l, rfl, upd_same, nd, pcs_few pc hl nd, fun own q hs pm hq => ?_⟩⟩
    have ho := own_of hl hs pm
    exact join_signs (Q := Q) upd_same (by have := ho.len pc; omega) (k own _ ho (Same.new (Same.upd hp) ((Same.upd hp).free hq)))
theorem ok_lown {f : Addr} {fd : FuncData} (F : Fun K "_law_own" "_law_own" sLOwn f fd) (T : Bt mg) : FnOk P w K mg base CX0 1 f fd ["_law_pieces"] (spLOwn K) := by
  refine F.ok scLOwn (fun vs H Q E h => ?_) (fun cdv A outer s H vs Q E hr h => ?_)
  · obtain ⟨_, _, rfl, _⟩ := h
    rfl
  · obtain ⟨t, L, rfl, ht, pc, k⟩ := h
    refine ⟨_, pss_one (ps_ret (pe_join pe_str (pe_callB (cr_sortSg rfl) rfl T.sorted (by decide +kernel) (pa_cons (pe_callTy (cr_setTx rfl) rfl T.set (by decide +kernel) (pa_cons (pe_join pe_str (pv 0)) pa_nil)) pa_nil)))), ?_⟩
    refine ⟨⟨_, rfl⟩, ⟨_, rfl⟩, _, rfl, ?_⟩
    refine ⟨_, t, L.map SX.S, rfl, rfl, .inr (pcs_seq (SqT.of ht)), pcs_size pc, ?_⟩
    rw [join0]
    refine ⟨L.flatten, rfl, by have := pcs_flat pc; omega, fun p l hp nd hl => ⟨p, l, rfl, upd_same, nd, pcs_few pc hl nd, fun own q hs pm hq => ?_⟩⟩
    have ho := own_of hl hs pm
    exact join_signs (Q := Q) upd_same (by have := ho.len pc; omega) (k own _ ho (Same.new (Same.upd hp) ((Same.upd hp).free hq)))
theorem ok_holds {f C : Addr} {fd : FuncData} (F : Fun K "holds_piece" "holds_piece" sHolds f fd) (T : Bt mg) (cl : Cls K C) (nP : NoAttr K C "pieces") : FnOk P w K mg base CX0 1 f fd ["book", "text"] (spHolds K C) := by
  refine F.ok scHolds (fun vs H Q E h => ?_) (fun cdv A outer s H vs Q E hr h => ?_)
  · obtain ⟨_, _, _, rfl, _⟩ := h
    rfl
  · obtain ⟨b, L, x, rfl, ⟨dx, t, hb, ht⟩, pc, k⟩ := h
    have pf := pc.few
    refine ⟨_, pss_one (ps_ret (pAny T rfl (pe_lc (own := [("piece", 2)]) (g := gName 2) (tt := tYes) rfl scHolds.nd (pi_tup (pe_fld (pv 0) rfl)) (blkOk_by (N := ["book", "text", "piece"]) (sc := defScope sHolds) (by decide +kernel))
      (fun _ _ _ _ _ => pg_name (i := 2) scHolds.nd rfl (Or.inl rfl)) (fun _ _ _ _ _ => pts_nil) (fun _ _ _ _ _ => pe_cmpR op_in_str (pv 2) (pv 1) rfl)))), ?_⟩
    refine ⟨_, rfl, b, C, dx, _, _, rfl, hb, cl, nP, rfl, t, rfl, ⟨_, SqT.of ht⟩, fun D new => lc_mapT L tx (fun p => .bl (decide (p <:+: x))) (SqT.of ht) new (by omega) (fun i p e acc hz => ?_) ?_⟩
    · refine ⟨rfl, _, rfl, _, rfl, _, _, rfl, rfl, ?_⟩
      rw [in_tx]
      exact lc_end hz rfl
    · refine ⟨D, L.map fun p => decide (p <:+: x), rfl, SqL.of (by rw [upd_same, List.map_map]; rfl), ?_⟩
      rw [any_map]
      exact k _ (Same.upd new)
theorem ok_lfree {f : Addr} {fd : FuncData} (F : Fun K "_law_is_free" "_law_is_free" sLFree f fd) (T : Bt mg) : FnOk P w K mg base CX0 1 f fd ["_law_pieces", "_law_text"] (spLFree K) := by
  refine F.ok scLFree (fun vs H Q E h => ?_) (fun cdv A outer s H vs Q E hr h => ?_)
  · obtain ⟨_, _, _, rfl, _⟩ := h
    rfl
  · obtain ⟨t, L, x, rfl, ht, pc, k⟩ := h
    have pf := pc.few
    refine ⟨_, pss_one (ps_ret (pe_not (pAny T rfl (pe_lc (own := [("_law_piece", 2)]) (g := gName 2) (tt := tYes) rfl scLFree.nd (pi_tup (pv 0)) (blkOk_by (N := ["_law_pieces", "_law_text", "_law_piece"]) (sc := defScope sLFree) (by decide +kernel))
      (fun _ _ _ _ _ => pg_name (i := 2) scLFree.nd rfl (Or.inl rfl)) (fun _ _ _ _ _ => pts_nil) (fun _ _ _ _ _ => pe_cmpR op_in_str (pv 2) (pv 1) rfl))))), ?_⟩
    refine ⟨_, rfl, t, rfl, ⟨_, SqT.of ht⟩, fun D new => lc_mapT L tx (fun p => .bl (decide (p <:+: x))) (SqT.of ht) new (by omega) (fun i p e acc hz => ?_) ?_⟩
    · refine ⟨rfl, _, rfl, _, rfl, _, _, rfl, rfl, ?_⟩
      rw [in_tx]
      exact lc_end hz rfl
    · refine ⟨D, L.map fun p => decide (p <:+: x), rfl, SqL.of (by rw [upd_same, List.map_map]; rfl), _, rfl, ?_⟩
      rw [any_map]
      exact k _ (Same.upd new)
theorem ok_isOwn {f C : Addr} {fd : FuncData} (F : Fun K "is_own" "is_own" sIsOwn f fd) (T : Bt mg) (hL : Has P w K mg base CX0 1 sLetters "letters" ["book"] (spLetters K C)) : FnOk P w K mg base CX0 2 f fd ["book", "thing"] (spIsOwn K C) := by
  obtain ⟨fL, fdL, DL, GL⟩ := hL
  refine F.ok scIsOwn (fun vs H Q E h => ?_) (fun cdv A outer s H vs Q E hr h => ?_)
  · obtain ⟨_, _, _, rfl, _⟩ := h
    rfl
  · obtain ⟨b, L, x, rfl, hb, pc, hl, hx, k⟩ := h
    refine ⟨_, pss_cons (ps_set (i := 2) scIsOwn.nd rfl (Or.inr rfl) (pe_call GL hr rfl DL.g DL.F.kp DL.b .nil pass0 (pa_cons (pv 0) pa_nil)))
      (pss_one (ps_ret (pe_and (pIsi T (pv 1) T.str PyProof.Rows.boot_str) (pe_one (pAll T rfl
      (pe_lc (own := [("sign", 3)]) (g := gName 3) (tt := tYes) rfl scIsOwn.nd (pi_str (pv 1)) (blkOk_by (N := ["book", "thing", "own", "sign"]) (sc := defScope sIsOwn) (by decide +kernel)) (fun _ _ _ _ _ => pg_name (i := 3) scIsOwn.nd rfl (Or.inl rfl)) (fun _ _ _ _ _ => pts_nil)
        (fun _ _ _ _ _ => pe_cmpR op_in_sign (pv 3) (pv 2) rfl))))))), ?_⟩
    refine ⟨_, rfl, b, L, rfl, hb, pc, fun own H1 ho S1 => ?_⟩
    refine ⟨_, rfl, _, "str", true, rfl, .base (.str _), by decide +kernel, _, rfl, iteT ?_⟩
    refine ⟨_, rfl, _, rfl, fun D new => lc_mapS x (fun _ => .bl true) (by omega) (fun i c e acc hz => ?_) ?_⟩
    · refine ⟨rfl, _, rfl, _, rfl, c, _, rfl, rfl, ?_⟩
      have : decide (c ∈ (SX.S own).cps.toList) = true := decide_eq_true ((ho.2 c).mpr (hx c (List.mem_of_getElem? e)))
      rw [this]
      exact lc_end hz rfl
    · refine ⟨D, x.map fun _ => true, rfl, SqL.of (by rw [upd_same, List.map_map]; rfl), ?_⟩
      rw [all_map, List.all_eq_true.mpr fun _ _ => rfl]
      exact k _ (Same.new S1 (S1.free new))
theorem ok_lflag {f : Addr} {fd : FuncData} (F : Fun K "_law_flag" "_law_flag" sLFlag f fd) (T : Bt mg) : FnOk P w K mg base CX0 1 f fd ["_law_told_here", "_law_due"] spLFlag := by
  refine F.ok scLFlag (fun vs H Q E h => ?_) (fun cdv A outer s H vs Q E hr h => ?_)
  · obtain ⟨_, _, rfl, _⟩ := h
    rfl
  · obtain ⟨a, b, rfl, k⟩ := h
    refine ⟨_, pss_one (ps_ret (pe_and (pIsi T (pv 0) T.bool PyProof.Rows.boot_bool) (pe_one (pe_cmpR op_eq (pv 0) (pv 1) (nomark _))))), ?_⟩
    refine ⟨_, rfl, _, "bool", true, rfl, .base (.bl _), by decide +kernel, _, rfl, iteT ⟨_, rfl, _, rfl, rfl, ?_⟩⟩
    exact blE (Q := Q) (decide_eq_decide.mpr ⟨fun e => V.bl.inj e, fun e => by rw [e]⟩) k
end
end FTW
end
section
set_option Elab.async false
set_option linter.all false
set_option maxRecDepth 100000
set_option maxHeartbeats 4000000
/-! what is free however often it is written -/
namespace FTW
open PySem PySem.Spec PyProof.Rows L2 FTR
open FT (Tx Gr aget aput)
theorem add_S (a b : Tx) : SX.S a ++ SX.S b = SX.S (a ++ b) := SX.S_cat a b
theorem rep_len (r : Tx) : ∀ k, (List.replicate k r).flatten.length = k * r.length
  | k => by rw [← times_flat, FT.times_len]
theorem sz1 {n : Nat} (h : n ≤ 100000) : n ≤ sizeLine := Nat.le_of_lt (big_lt h)
section
variable {P : Program} {w : World} {K : PySem.W.Frag} {mg : Str → Option Value} {base : Heap}
theorem ok_stays {f C : Addr} {fd : FuncData} (F : Fun K "stays_free" "stays_free" sStays f fd) (T : Bt mg) (cl : Cls K C) (nP : NoAttr K C "pieces") (hH : Has P w K mg base CX0 1 sHolds "holds_piece" ["book", "text"] (spHolds K C)) :
    FnOk P w K mg base CX0 2 f fd ["book", "front", "turned"] (spStays K C) := by
  obtain ⟨fH, fdH, DH, GH⟩ := hH
  refine F.ok scStays (fun vs H Q E h => ?_) (fun cdv A outer s H vs Q E hr h => ?_)
  · obtain ⟨_, _, _, _, rfl, _⟩ := h
    rfl
  · obtain ⟨b, L, u, r, rfl, hb, pc, ev, k⟩ := h
    have pf := pc.few
    obtain ⟨hr0, hul, hrl, _, _, hev⟩ := ev
    have rl : 0 < r.length := List.length_pos_iff.mpr hr0
    have free0 : (L.any fun p => decide (p <:+: u)) = false := any_false fun p hp => by have := hev 0 p hp; simpa using this
    refine ⟨_, pss_cons (ps_if (pt_val (pe_call GH hr rfl DH.g DH.F.kp DH.b .nil pass0 (pa_cons (pv 0) (pa_cons (pv 1) pa_nil)))) (pss_one (ps_ret pe_bl)) pss_nil)
      (pss_cons (ps_set (i := 3) scStays.nd rfl (Or.inl rfl) (pe_op op_add (pe_op op_fdiv (pMax T rfl
          (pe_lc (own := [("piece", 4)]) (g := gName 4) (tt := tYes) (te := tCB (rLen K) (tCons (tVar 4) tNil)) rfl scStays.nd (pi_tup (pe_fld (pv 0) rfl)) (blkOk_by (N := ["book", "front", "turned", "many", "piece"]) (sc := defScope sStays) (by decide +kernel))
            (fun _ _ _ _ _ => pg_name (i := 4) scStays.nd rfl (Or.inl rfl)) (fun _ _ _ _ _ => pts_nil) (fun _ _ _ _ _ => pLen T (pv 4)))) (pLen T (pv 2))) pe_int))
      (pss_one (ps_ret (pe_not (pe_call GH hr rfl DH.g DH.F.kp DH.b .nil pass0 (pa_cons (pv 0) (pa_cons (pe_op op_add_str (pv 1) (pe_op op_mulTx (pv 2) (pv 3))) pa_nil))))))), ?_⟩
    refine ⟨_, rfl, _, rfl, b, L, u, rfl, hb, pc, fun H1 S1 => ⟨_, rfl, ?_⟩⟩
    rw [free0]
    refine iteF ?_
    obtain ⟨dx, t, hb1, ht1⟩ := hb.same S1
    refine ⟨_, rfl, b, C, dx, _, _, rfl, hb1, cl, nP, rfl, t, rfl, ⟨_, SqT.of ht1⟩, fun D new => lc_mapT L tx (fun p => .int (p.length : Int)) (SqT.of ht1) new (by omega) (fun i p e acc hz => ?_) ?_⟩
    · have hp := pc.len p (List.mem_of_getElem? e)
      refine ⟨rfl, _, rfl, _, p.length, rfl, ⟨by rw [SX.S_len]; exact sz1 (by omega), (SX.S_len p).symm⟩, lc_end hz rfl⟩
    · have S2 := Same.new (o := .lst (L.map fun p => V.int (p.length : Int))) S1 (S1.free new)
      refine ⟨D, L.map fun p => (p.length : Int), rfl, SqL.of (by rw [upd_same, List.map_map]; rfl), by simpa using List.length_pos_iff.mpr pc.some, fun m hm _ => ?_⟩
      obtain ⟨p, hp, rfl⟩ := List.mem_map.mp hm
      have hpl := pc.len p hp
      refine ⟨_, rfl, _, r.length, rfl, ⟨by rw [SX.S_len]; exact sz1 (by omega), (SX.S_len r).symm⟩, _, _, rfl, rfl, ⟨by omega, by omega⟩, _, _, rfl, rfl, ?_⟩
      have em : (p.length : Int) / (r.length : Int) + 2 = ((p.length / r.length + 2 : Nat) : Int) := by
        rw [Int.natCast_add, Int.natCast_ediv]; rfl
      have ml : p.length / r.length + 2 ≤ 10 := by have := Nat.div_le_self p.length r.length; omega
      have sz : r.length * (p.length / r.length + 2) ≤ 200 * 10 := Nat.mul_le_mul hrl ml
      refine ⟨_, rfl, _, rfl, _, rfl, _, rfl, r, p.length / r.length + 2, rfl, congrArg V.int em, by omega, by omega, _, _, rfl, rfl, ?_, _, L, u ++ (List.replicate (p.length / r.length + 2) r).flatten, ?_, hb.same S2, pc, fun H3 S3 => ⟨_, rfl, ?_⟩⟩
      · rw [SX.S_len, SX.S_len, rep_len, Nat.mul_comm]
        exact sz1 (by omega)
      · exact congrArg (fun z => [V.ref b, V.str z]) (add_S _ _)
      · have e := any_false (hev (p.length / r.length + 2))
        exact blE (Q := Q) (by rw [e]; rfl) (k _ (S2.trans S3))
theorem ok_isEnd {f C : Addr} {fd : FuncData} (F : Fun K "is_endless" "is_endless" sIsEnd f fd) (T : Bt mg) (hO : Has P w K mg base CX0 2 sIsOwn "is_own" ["book", "thing"] (spIsOwn K C))
    (hS : Has P w K mg base CX0 2 sStays "stays_free" ["book", "front", "turned"] (spStays K C)) : FnOk P w K mg base CX0 3 f fd ["book", "thing"] (spIsEnd K C) := by
  obtain ⟨fO, fdO, DO, GO⟩ := hO
  obtain ⟨fS, fdS, DS, GS⟩ := hS
  refine F.ok scIsEnd (fun vs H Q E h => ?_) (fun cdv A outer s H vs Q E hr h => ?_)
  · obtain ⟨_, _, _, _, _, rfl, _⟩ := h
    rfl
  · obtain ⟨b, t, L, u, r, rfl, hb, pc, ht, ev, k⟩ := h
    have ev' := ev
    obtain ⟨hr0, hul, hrl, hu1, hr1, hev⟩ := ev
    have rl : 0 < r.length := List.length_pos_iff.mpr hr0
    refine ⟨_, pss_cons (ps_if (PW.pt (pw_or (pt_not (pt_val (pIsi T (pv 1) T.tup PyProof.Rows.boot_tuple))) (pw_or (pt_cmpR op_ne (pLen T (pv 1)) pe_int (nomark _)) (pw_or1 (pt_not (pt_val (pAll T rfl
        (pe_lc (own := [("part", 2)]) (g := gName 2) (tt := tYes) rfl scIsEnd.nd (pi_tup (pv 1)) (blkOk_by (N := ["book", "thing", "part"]) (sc := defScope sIsEnd) (by decide +kernel))
            (fun _ _ _ _ _ => pg_name (i := 2) scIsEnd.nd rfl (Or.inl rfl)) (fun _ _ _ _ _ => pts_nil) (fun _ _ _ _ _ => pe_call GO hr rfl DO.g DO.F.kp DO.b .nil pass0 (pa_cons (pv 0) (pa_cons (pv 2) pa_nil)))))))))))
        (pss_one (ps_ret pe_bl)) pss_nil)
      (pss_one (ps_ret (pe_and (pe_cmpR op_gt (pLen T (pe_ix ix_tup (pv 1) pe_int (fun _ _ => rfl))) pe_int (nomark _)) (pe_one (pe_call GS hr rfl DS.g DS.F.kp DS.b .nil pass0 (pa_cons (pv 0) (pa_cons (pe_ix ix_tup (pv 1) pe_int (fun _ _ => rfl)) (pa_cons (pe_ix ix_tup (pv 1) pe_int (fun _ _ => rfl)) pa_nil)))))))), ?_⟩
    refine ⟨_, rfl, _, "tuple", true, rfl, .base (.tup ht), by decide +kernel, _, rfl, iteF ?_⟩
    refine ⟨_, rfl, _, 2, rfl, .inr ⟨_, SqT.of ht, rfl⟩, rfl, _, rfl, iteF ?_⟩
    refine ⟨_, rfl, t, rfl, ⟨_, SqT.of ht⟩, fun D new => ?_⟩
    have at0 : ∀ {H' : Hp}, Same H H' → H' t = some (.tup [tx u, tx r]) := fun s => s _ _ ht
    refine lc_allW 2 (fun i H' => Same H H' ∧ H' D = some (.lst (List.replicate i (V.bl true)))) ⟨Same.upd new, upd_same⟩ (fun i H' hi q => ⟨_, [tx u, tx r][i], SqT.of (at0 q.1), by simp [hi]⟩) (fun H' q => ⟨_, SqT.of (at0 q.1), by simp⟩) (fun i x H1 H2 hi q y => ?_) (fun H1 q => ?_)
    · obtain ⟨rfl, y⟩ := y
      obtain ⟨S1, hD⟩ := q
      have e := y _ (SqT.of (at0 S1))
      refine ⟨rfl, _, rfl, _, rfl, b, L, if i = 0 then u else r, ?_, hb.same S1, pc, ?_, ?_, fun H3 S3 => ⟨_, S3 _ _ hD, by simp; exact big_lt (by omega), Same.new (S1.trans S3) new, ?_⟩⟩
      · have : i = 0 ∨ i = 1 := by omega
        rcases this with rfl | rfl
        · cases Option.some.inj e; rfl
        · cases Option.some.inj e; rfl
      · split <;> omega
      · split
        · exact hu1
        · exact hr1
      · rw [upd_same, List.replicate_succ']
    · obtain ⟨S1, hD⟩ := q
      refine ⟨D, [true, true], rfl, SqL.of hD, _, rfl, iteF ?_⟩
      refine ⟨_, rfl, t, _, 1, tx r, rfl, rfl, SqT.of (at0 S1), rfl, _, r.length, rfl, ⟨by rw [SX.S_len]; exact sz1 (by omega), (SX.S_len r).symm⟩, _, _, rfl, rfl, _, rfl, ifT (by omega) ?_⟩
      exact ⟨_, rfl, _, rfl, t, _, 0, tx u, rfl, rfl, SqT.of (at0 S1), rfl, _, rfl, t, _, 1, tx r, rfl, rfl, SqT.of (at0 S1), rfl, b, L, u, r, rfl, hb.same S1, pc, ev', fun H3 S3 => k _ (S1.trans S3)⟩
theorem ok_lisEnd {f : Addr} {fd : FuncData} (F : Fun K "_law_is_endless" "_law_is_endless" sLIsEnd f fd) (T : Bt mg) (hO : Has P w K mg base CX0 1 sLOwn "_law_own" ["_law_pieces"] (spLOwn K))
    (hF : Has P w K mg base CX0 1 sLFree "_law_is_free" ["_law_pieces", "_law_text"] (spLFree K)) : FnOk P w K mg base CX0 2 f fd ["_law_pieces", "_law_pair"] (spLIsEnd K) := by
  obtain ⟨fO, fdO, DO, GO⟩ := hO
  obtain ⟨fF, fdF, DF, GF⟩ := hF
  refine F.ok scLIsEnd (fun vs H Q E h => ?_) (fun cdv A outer s H vs Q E hr h => ?_)
  · obtain ⟨_, _, _, _, _, rfl, _⟩ := h
    rfl
  · obtain ⟨t, q, L, u, r, rfl, ht, pc, hq, ⟨hr0, hul, hrl, hu1, hr1, hev⟩, k⟩ := h
    have rl : 0 < r.length := List.length_pos_iff.mpr hr0
    refine ⟨_, pss_cons (ps_asg (pe_tup (pa_cons (pe_call GO hr rfl DO.g DO.F.kp DO.b .nil pass0 (pa_cons (pv 0) pa_nil)) (pa_cons (pe_ix ix_tup (pv 1) pe_int (fun _ _ => rfl)) (pa_cons (pe_ix ix_tup (pv 1) pe_int (fun _ _ => rfl)) pa_nil))))
        (pg_tup rfl (pgs_cons (pg_name (i := 2) scLIsEnd.nd rfl (Or.inr rfl)) (pgs_cons (pg_name (i := 3) scLIsEnd.nd rfl (Or.inl rfl)) (pgs_cons (pg_name (i := 4) scLIsEnd.nd rfl (Or.inl rfl)) pgs_nil)))))
      (pss_cons (ps_if (PW.pt (pw_or (pt_not (pt_val (pIsi T (pv 3) T.str PyProof.Rows.boot_str))) (pw_or (pt_not (pt_val (pIsi T (pv 4) T.str PyProof.Rows.boot_str))) (pw_or1 (pt_cmpR op_eq (pv 4) pe_str (nomark _)))))) (pss_one (ps_ret pe_bl)) pss_nil)
      (pss_cons (ps_if (pt_not (pt_val (pAll T rfl
        (pe_lc (own := [("_law_letter", 5)]) (g := gName 5) (tt := tYes) rfl scLIsEnd.nd (pi_str (pe_op op_add_str (pv 3) (pv 4))) (blkOk_by (N := ["_law_pieces", "_law_pair", "_law_own_here", "_law_front", "_law_turn", "_law_letter"]) (sc := defScope sLIsEnd) (by decide +kernel))
            (fun _ _ _ _ _ => pg_name (i := 5) scLIsEnd.nd rfl (Or.inl rfl)) (fun _ _ _ _ _ => pts_nil) (fun _ _ _ _ _ => pe_cmpR op_in_sign (pv 5) (pv 2) rfl))))) (pss_one (ps_ret pe_bl)) pss_nil)
      (pss_one (ps_ret (pe_call GF hr rfl DF.g DF.F.kp DF.b .nil pass0 (pa_cons (pv 0) (pa_cons (pe_op op_add_str (pv 3) (pe_op op_mulTx (pv 4) (pe_op op_add pe_int (pe_op op_fdiv pe_int (pLen T (pv 4)))))) pa_nil))))))), ?_⟩
    refine ⟨_, rfl, t, L, rfl, ht, pc, fun own H1 ho S1 => ?_⟩
    refine ⟨_, rfl, q, _, 0, tx u, rfl, rfl, SqT.of (S1 _ _ hq), rfl, _, rfl, q, _, 1, tx r, rfl, rfl, SqT.of (S1 _ _ hq), rfl, by show 3 ≤ sizeLine; exact sz1 (by omega), fun p np => ?_⟩
    refine ⟨p, _, rfl, SqT.of upd_same, rfl, _, _, rfl, _, _, rfl, _, _, rfl, rfl, ?_⟩
    have S2 := Same.new (o := .tup [tx own, tx u, tx r]) S1 (S1.free np)
    refine ⟨_, rfl, _, "str", true, rfl, .base (.str _), by decide +kernel, _, rfl, iteF ⟨_, rfl, _, "str", true, rfl, .base (.str _), by decide +kernel, _, rfl, iteF ?_⟩⟩
    refine ⟨_, rfl, rfl, _, rfl, ifF (fun z => ?_) ?_⟩
    · rw [nil_S] at z
      exact hr0 (tx_inj.mp z)
    refine ⟨_, rfl, _, rfl, _, _, rfl, rfl, by rw [SX.S_len, SX.S_len]; exact sz1 (by omega), _, congrArg V.str (add_S u r), fun D new => lc_mapS (u ++ r) (fun _ => .bl true) (by rw [List.length_append]; omega) (fun i c e acc hz => ?_) ?_⟩
    · refine ⟨rfl, _, rfl, _, rfl, c, _, rfl, rfl, ?_⟩
      have : decide (c ∈ (SX.S own).cps.toList) = true := decide_eq_true ((ho.2 c).mpr ?_)
      · rw [this]
        exact lc_end hz rfl
      · rcases List.mem_append.mp (List.mem_of_getElem? e) with h | h
        · exact hu1 c h
        · exact hr1 c h
    · have S3 := Same.new (o := .lst ((u ++ r).map fun _ => V.bl true)) S2 (S2.free new)
      refine ⟨D, (u ++ r).map fun _ => true, rfl, SqL.of (by rw [upd_same, List.map_map]; rfl), _, rfl, ?_⟩
      rw [all_map, List.all_eq_true.mpr fun _ _ => rfl]
      refine iteF ?_
      have em : (2 : Int) + 16 / (r.length : Int) = ((2 + 16 / r.length : Nat) : Int) := by
        rw [Int.natCast_add, Int.natCast_ediv]; rfl
      have ml : 2 + 16 / r.length ≤ 18 := by have := Nat.div_le_self 16 r.length; omega
      have sz : r.length * (2 + 16 / r.length) ≤ 200 * 18 := Nat.mul_le_mul hrl ml
      refine ⟨_, rfl, _, rfl, _, rfl, _, rfl, _, r.length, rfl, ⟨by rw [SX.S_len]; exact sz1 (by omega), (SX.S_len r).symm⟩, _, _, rfl, rfl, ⟨by omega, by omega⟩, _, _, rfl, rfl, r, 2 + 16 / r.length, rfl, congrArg V.int em, by omega, by omega, _, _, rfl, rfl, ?_,
        t, L, u ++ (List.replicate (2 + 16 / r.length) r).flatten, ?_, S3 _ _ ht, pc, fun H4 S4 => ?_⟩
      · rw [SX.S_len, SX.S_len, rep_len, Nat.mul_comm]
        exact sz1 (by omega)
      · exact congrArg (fun z => [V.ref t, V.str z]) (add_S _ _)
      · have e := any_false (hev (2 + 16 / r.length))
        exact blE (Q := Q) (by rw [e]; rfl) (k _ (S3.trans S4))
end
end FTW
end
section
set_option Elab.async false
set_option linter.all false
set_option maxRecDepth 100000
set_option maxHeartbeats 4000000
/-! d.update(other dict) -/
namespace FTR
open PySem PySem.Spec PyProof.Rows L2
section
variable {X : Cx}
def rUpdD : V → List V → Hp → VK → Prop := fun x vs H Q => ∃ (a b : Addr) (kvs more : List (Key × V)), x = .ref a ∧ vs = [.ref b] ∧ a ≠ b ∧ H a = some (.dK kvs) ∧ H b = some (.dK more) ∧ kvs.length + more.length ≤ sizeLine ∧
  Q .non (upd H a (.dK (mergeK kvs more)))
theorem mergeK_len : ∀ (more kvs : List (Key × V)), (mergeK kvs more).length ≤ kvs.length + more.length
  | [], kvs => Nat.le_refl _
  | p :: more, kvs => by
    have h1 := length_putK kvs p.1 p.2
    have h2 := mergeK_len more (putK kvs p.1 p.2)
    show (mergeK (putK kvs p.1 p.2) more).length ≤ kvs.length + (more.length + 1)
    omega
theorem kv_merge : ∀ {more : List (Key × V)} {mv : List (Key × Value)}, KV more mv → ∀ {kvs : List (Key × V)} {vs : List (Key × Value)}, KV kvs vs → KV (mergeK kvs more) (merged vs mv)
  | _, _, .nil, _, _, h => h
  | _, _, .cons (a := p) (b := q) r t, kvs, vs, h => by
    obtain ⟨e, rv⟩ := r
    have h2 := h.put p.1 rv
    have := kv_merge t h2
    rw [e] at this
    show KV (mergeK (putK kvs p.1 p.2) _) (merged (stored vs q.1 q.2) _)
    rw [e]
    exact this
theorem mt_updD : MtR X "dict.update" rUpdD := by
  intro pins s σ H x xs v us Q J rx rxs hw
  obtain ⟨a, b, kvs, more, rfl, rfl, ne, ha, hb, hz, q⟩ := hw
  cases rx
  obtain ⟨u, rfl, ru⟩ := vals1 rxs
  cases (show u = Value.ref b from ru)
  obtain ⟨z, hd, vs, rel, dd⟩ := dk_of J.hok ha
  obtain ⟨z2, hd2, ws, rel2, dd2⟩ := dk_of J.hok hb
  refine call_meetsIn F.slot_dict_update dd.typeIs F.entry_dict_update (F.args_dict_update_2 _ _) (meets_dict_update (mixKind X.prog X.w) a b ne hd2)
    ⟨vs, ws, dd, dd2, by rw [← rel.length, ← rel2.length]; exact hz, fun h' dd' _ sb => ?_⟩
  have he : ∃ q, h'.get? a = some q := let ⟨q, _, _, hq, _⟩ := dd'; ⟨q, hq⟩
  refine ⟨.non, _, d_write (t' := s.toks) J (by rw [ha]; exact True.intro) sb he (dk_new (Nat.le_trans (mergeK_len more kvs) hz) hd (kv_merge rel2 rel) dd'), rfl, q⟩
end
end FTR
end
section
set_option Elab.async false
set_option linter.all false
set_option maxRecDepth 100000
set_option maxHeartbeats 4000000
/-! dicts of fronts -/
namespace FTW
open PySem PySem.Spec PyProof.Rows L2 FTR
open FT (Tx Gr aget aput)
theorem dget_dk {β : Type} {f : β → V} {H : Hp} {a : Addr} {l : List (Tx × β)} (h : Rd H a (.dK (dk f l))) (k : Tx) : DGet H a (tx k) ((aget l k).map f) := .inl ⟨_, kx k, h, rfl, (valV_dk f k l).symm⟩
theorem dget_some {β : Type} {f : β → V} {H : Hp} {a : Addr} {l : List (Tx × β)} {k : Tx} {b : β} (h : Rd H a (.dK (dk f l))) (e : aget l k = some b) : DGet H a (tx k) (some (f b)) := by
  have := dget_dk h k
  rw [e] at this
  exact this
theorem dput_dk {β : Type} {f : β → V} {H : Hp} {a : Addr} {l : List (Tx × β)} (h : H a = some (.dK (dk f l))) (few : l.length ≤ 100000) (k : Tx) (v : β) : DPut H a (tx k) (f v) (upd H a (.dK (dk f (aput l k v)))) := by
  have := DPut.k (k := kx k) (v := f v) h (by rw [dk_len]; exact big_lt few)
  rw [putK_dk] at this
  exact this
theorem map_isSome {α β : Type} (o : Option α) (f : α → β) : (o.map f).isSome = o.isSome := by cases o <;> rfl
theorem aget_dec {β : Type} {l : List (Tx × β)} {k : Tx} : (aget l k).isSome = decide (k ∈ l.map (·.1)) := by
  by_cases h : k ∈ l.map (·.1)
  · obtain ⟨v, e⟩ := FT.aget_isSome.mpr h
    rw [e, decide_eq_true h]; rfl
  · rw [FT.aget_none.mpr h, decide_eq_false h]; rfl
theorem aput_len {β : Type} (l : List (Tx × β)) (k : Tx) (v : β) : (aput l k v).length ≤ l.length + 1 := by
  unfold aput
  split <;> simp
theorem merge_dk {β : Type} (f : β → V) : ∀ (m l : List (Tx × β)), mergeK (dk f l) (dk f m) = dk f (m.foldl (fun a p => aput a p.1 p.2) l)
  | [], _ => rfl
  | p :: m, l => by
    show mergeK (putK (dk f l) (kx p.1) (f p.2)) (dk f m) = _
    rw [putK_dk, merge_dk f m]
    rfl
theorem foldl_keys {β : Type} {w : Tx} : ∀ (m l : List (Tx × β)), w ∈ (m.foldl (fun a p => aput a p.1 p.2) l).map (·.1) ↔ w ∈ l.map (·.1) ∨ w ∈ m.map (·.1)
  | [], l => by simp
  | p :: m, l => by
    rw [List.foldl_cons, foldl_keys m, FT.aput_keys_mem, List.map_cons, List.mem_cons]
    constructor
    · rintro ((h | h) | h)
      · exact .inr (.inl h)
      · exact .inl h
      · exact .inr (.inr h)
    · rintro (h | h | h)
      · exact .inl (.inr h)
      · exact .inl (.inl h)
      · exact .inr h
theorem foldl_len {β : Type} : ∀ (m l : List (Tx × β)), (m.foldl (fun a p => aput a p.1 p.2) l).length ≤ l.length + m.length
  | [], l => by simp
  | p :: m, l => by
    have h1 := foldl_len m (aput l p.1 p.2)
    have h2 := aput_len l p.1 p.2
    rw [List.foldl_cons, List.length_cons]
    omega
/-- the own letters, told by the pieces -/
def ownOf (P : List Tx) : List Nat := (List.range 200).filter fun c => P.any fun p => p.contains c
theorem own_ownOf {P : List Tx} (pc : Pcs P) : Own P (ownOf P) := by
  refine ⟨List.Pairwise.filter _ List.pairwise_lt_range, fun c => ?_⟩
  unfold ownOf
  rw [List.mem_filter, List.mem_range, List.any_eq_true]
  constructor
  · rintro ⟨_, p, hp, h⟩
    exact ⟨p, hp, by simpa using h⟩
  · rintro ⟨p, hp, h⟩
    have := pc.let_ p hp c h
    exact ⟨by omega, p, hp, by simpa using h⟩
theorem own_eq {P : List Tx} (pc : Pcs P) {own : List Nat} (h : Own P own) : own = ownOf P := Own.one h (own_ownOf pc)
/-- fronts kept as a dict of flags -/
def FrAt (H : Hp) (d : Addr) (P : List Tx) : Prop := ∃ l : List (Tx × Unit), H d = some (.dK (dk (fun _ => V.bl true) l)) ∧ l.length ≤ 1000 ∧ ∀ w, w ∈ l.map (·.1) ↔ w ∈ FT.fronts P
/-! ### the steps of the program: a dict of dicts -/
def rowD (r : List (Nat × Tx)) : List (Key × V) := dk tx (r.map fun cb => ([cb.1], cb.2))
def Rows (H : Hp) (d : Addr) (g : Gr) (as : List (Tx × Addr)) : Prop := Paired (fun (fr : Tx × List (Nat × Tx)) (fa : Tx × Addr) => fr.1 = fa.1 ∧ fa.2 ≠ d ∧ H fa.2 = some (.dK (rowD fr.2))) g as
def StepsAt (H : Hp) (d : Addr) (g : Gr) : Prop := ∃ as : List (Tx × Addr), H d = some (.dK (dk V.ref as)) ∧ Rows H d g as
theorem Rows.same {H H' : Hp} {d : Addr} {g : Gr} {as : List (Tx × Addr)} (h : Rows H d g as) (s : ∀ p ∈ as, ∀ o, H p.2 = some o → H' p.2 = some o) : Rows H' d g as := by
  unfold Rows at h ⊢
  induction h with
  | nil => exact .nil
  | cons r t ih =>
    exact .cons ⟨r.1, r.2.1, s _ List.mem_cons_self _ r.2.2⟩ (ih fun p hp => s p (List.mem_cons_of_mem _ hp))
theorem StepsAt.same {H H' : Hp} {d : Addr} {g : Gr} (s : Same H H') (h : StepsAt H d g) : StepsAt H' d g := by
  obtain ⟨as, h1, h2⟩ := h
  exact ⟨as, s _ _ h1, h2.same fun p _ o e => s _ _ e⟩
theorem Rows.keys {H : Hp} {d : Addr} {g : Gr} {as : List (Tx × Addr)} (h : Rows H d g as) : as.map (·.1) = g.map (·.1) := by
  unfold Rows at h
  induction h with
  | nil => rfl
  | cons r t ih => rw [List.map_cons, List.map_cons, r.1, ih]
theorem Rows.len {H : Hp} {d : Addr} {g : Gr} {as : List (Tx × Addr)} (h : Rows H d g as) : as.length = g.length := by
  have := congrArg List.length h.keys
  simpa using this
theorem Rows.get {H : Hp} {d : Addr} {g : Gr} {as : List (Tx × Addr)} (h : Rows H d g as) {f : Tx} {r : List (Nat × Tx)} (e : aget g f = some r) : ∃ a, aget as f = some a ∧ a ≠ d ∧ H a = some (.dK (rowD r)) := by
  unfold Rows at h
  induction h with
  | nil => cases e
  | @cons p q l m hr t ih =>
    rw [FT.aget_cons] at e ⊢
    by_cases c : p.1 = f
    · rw [if_pos c] at e
      rw [if_pos (hr.1 ▸ c)]
      cases e
      exact ⟨_, rfl, hr.2⟩
    · rw [if_neg c] at e
      rw [if_neg (hr.1 ▸ c)]
      exact ih e
theorem Rows.mem {H : Hp} {d : Addr} {g : Gr} {as : List (Tx × Addr)} (h : Rows H d g as) {p : Tx × Addr} (hp : p ∈ as) : p.2 ≠ d ∧ ∃ r, H p.2 = some (.dK (rowD r)) := by
  unfold Rows at h
  induction h with
  | nil => cases hp
  | cons r t ih =>
    rcases List.mem_cons.mp hp with e | hp
    · subst e
      exact ⟨r.2.1, _, r.2.2⟩
    · exact ih hp
theorem aget_one {r : List (Nat × Tx)} {c : Nat} {b : Tx} (h : aget (r.map fun cb => ([cb.1], cb.2)) ([c] : Tx) = some b) : (c, b) ∈ r := by
  have := FT.aget_some_mem h
  obtain ⟨⟨x, y⟩, hm, e⟩ := List.mem_map.mp this
  cases e
  exact hm
theorem aput_one {r : List (Nat × Tx)} {c : Nat} {b : Tx} (h : c ∉ r.map (·.1)) : aput (r.map fun cb => ([cb.1], cb.2)) ([c] : Tx) b = (r ++ [(c, b)]).map fun cb => ([cb.1], cb.2) := by
  rw [FT.aput_new]
  · simp
  · intro z
    obtain ⟨p, hp, e⟩ := List.mem_map.mp z
    obtain ⟨q, hq, rfl⟩ := List.mem_map.mp hp
    exact h (List.mem_map.mpr ⟨q, hq, by simpa using e⟩)
/-! ### dict comprehensions -/
section
variable {J : It} {g : TG} {tk tv : TE} {vs : List Nat} {σ : L2.St} {H1 : Hp} {D : Addr} {Qd : Hp → Prop}
theorem dc_all (n : Nat) (acc : Nat → List (Key × V)) (a0 : acc 0 = []) (go : ∀ i, i < n → J.go i (upd H1 D (.dK (acc i)))) (stop : J.stop n (upd H1 D (.dK (acc n))))
    (hs : ∀ i x H', i < n → J.yld i (upd H1 D (.dK (acc i))) x H' → g x (wipe σ vs) H' fun σ2 H2 => wipe σ2 vs = wipe σ vs ∧
      tk σ2 H2 fun y H4 => tv σ2 H4 fun z H5 => ∃ kvs k, y = kV k ∧ H5 D = some (.dK kvs) ∧ kvs.length < sizeLine ∧ upd H5 D (.dK (putK kvs k z)) = upd H1 D (.dK (acc (i + 1)))) (hd : Qd (upd H1 D (.dK (acc n))))
    (mg : ∀ x σ H Q Q', (∀ σ2 H2, Q σ2 H2 → Q' σ2 H2) → g x σ H Q → g x σ H Q' := by intro _ _ _ _ _ k h; exact k _ _ h) :
    ∃ W : Nat → Nat → Hp → Prop, (∃ m, W 0 m (upd H1 D (.dK []))) ∧ ∀ i m H, W i m H →
      (J.stop i H ∧ Qd H) ∨ (J.go i H ∧ ∃ Nx : Hp → Prop, (∀ H', Nx H' → ∃ m', m' < m ∧ W (i + 1) m' H') ∧ ∀ x H', J.yld i H x H' → g x (wipe σ vs) H' fun σ2 H2 => wipe σ2 vs = wipe σ vs ∧ tYes σ2 H2 fun b H3 =>
        if b = true then tk σ2 H3 fun y H4 => tv σ2 H4 fun z H5 => ∃ kvs k, y = kV k ∧ H5 D = some (.dK kvs) ∧ kvs.length < sizeLine ∧ Nx (upd H5 D (.dK (putK kvs k z))) else Nx H3) := by
  refine ⟨fun i m H => m = n - i ∧ i ≤ n ∧ H = upd H1 D (.dK (acc i)), ⟨n, by simp, Nat.zero_le _, by rw [a0]⟩, ?_⟩
  rintro i m H ⟨rfl, hi, rfl⟩
  by_cases hlt : i < n
  · exact .inr ⟨go i hlt, fun H => H = upd H1 D (.dK (acc (i + 1))), fun H' p' => ⟨n - (i + 1), by omega, rfl, hlt, p'⟩, fun x H' y => mg _ _ _ _ _ (fun σ2 H2 q => ⟨q.1, yes_of q.2⟩) (hs i x H' hlt y)⟩
  · have e : i = n := by omega
    subst e
    exact .inl ⟨stop, hd⟩
end
end FTW
end
section
set_option Elab.async false
set_option linter.all false
set_option maxRecDepth 100000
set_option maxHeartbeats 4000000
/-! fronts, the longest one, the steps -/
namespace FTW
open PySem PySem.Spec PyProof.Rows L2 FTR
open FT (Tx Gr aget aput)
abbrev sFronts : Stmt := top 22
abbrev sLongF : Stmt := top 25
theorem scFronts : FnScope ["book", "found", "piece", "at"] ["book"] (defScope sFronts) := ⟨rfl, rfl, rfl, by decide +kernel, rfl, by decide +kernel, by decide +kernel⟩
theorem scLongF : FnScope ["fronts", "text"] ["fronts", "text"] (defScope sLongF) := ⟨rfl, rfl, rfl, by decide +kernel, rfl, by decide +kernel, by decide +kernel⟩
def spFronts (K : PySem.W.Frag) (C : Addr) : Sp := fun vs H Q _ => ∃ b P, vs = [.ref b] ∧ BookAt K C H b P ∧ Pcs P ∧ ∀ d H', Same H H' → H d = none → FrAt H' d P → Q (.ref d) H'
def spLongF : Sp := fun vs H Q _ => ∃ d P w, vs = [.ref d, tx w] ∧ FrAt H d P ∧ w.length ≤ 1000 ∧ Q (tx (FT.lsuf P w)) H
/-- the heads of one piece -/
def heads (p : Tx) (n : Nat) : List (Tx × Unit) := (List.range n).foldl (fun l j => aput l (p.take j) ()) []
theorem heads_succ (p : Tx) (n : Nat) : heads p (n + 1) = aput (heads p n) (p.take n) () := by
  unfold heads
  rw [List.range_succ, List.foldl_append]
  rfl
theorem heads_len (p : Tx) : ∀ n, (heads p n).length ≤ n
  | 0 => Nat.le_refl _
  | n + 1 => by
    rw [heads_succ]
    have h1 := aput_len (heads p n) (p.take n) ()
    have h2 := heads_len p n
    omega
theorem heads_mem (p : Tx) {w : Tx} : ∀ n, w ∈ (heads p n).map (·.1) ↔ ∃ j, j < n ∧ w = p.take j
  | 0 => by simp [heads]
  | n + 1 => by
    rw [heads_succ, FT.aput_keys_mem, heads_mem p n]
    constructor
    · rintro (h | ⟨j, h1, h2⟩)
      · exact ⟨n, by omega, h⟩
      · exact ⟨j, by omega, h2⟩
    · rintro ⟨j, h1, h2⟩
      by_cases e : j = n
      · exact .inl (e ▸ h2)
      · exact .inr ⟨j, by omega, h2⟩
theorem true_tr : ∀ (u : Unit), (fun _ : Unit => V.bl true) u = V.bl true := fun _ => rfl
/-- the length of the text in a slot -/
def txLen (i : Nat) (σ : L2.St) : Nat := match σ[i]? with
  | some (some (.str s)) => s.length
  | _ => 0
section
variable {P : Program} {w : World} {K : PySem.W.Frag} {mg : Str → Option Value} {base : Heap}
theorem ok_fronts {f C : Addr} {fd : FuncData} (F : Fun K "fronts_of" "fronts_of" sFronts f fd) (T : Bt mg) (cl : Cls K C) (nP : NoAttr K C "pieces") : FnOk P w K mg base CX0 1 f fd ["book"] (spFronts K C) := by
  refine F.ok scFronts (fun vs H Q E h => ?_) (fun cdv A outer s H vs Q E hr h => ?_)
  · obtain ⟨_, _, rfl, _⟩ := h
    rfl
  · obtain ⟨b, L, rfl, ⟨dx, t, hb, ht⟩, pc, k⟩ := h
    have pf := pc.few
    refine ⟨_, pss_cons (ps_set (i := 1) scFronts.nd rfl (Or.inl rfl) (pe_disp (pps_cons pe_str pe_bl pps_nil) rfl rfl (fun z => nomatch z) (by decide)))
      (pss_cons (ps_for PassesOwn.never rfl (pi_tup (pe_fld (pv 0) rfl)) (pg_name (i := 2) scFronts.nd rfl (Or.inr rfl))
        (pss_one (ps_expr (pe_bm PySem.F.plainAttrs_dict PySem.F.slot_dict_update PySem.F.type_dict_update mt_updD (pv 1) (pa_cons
          (pe_dc (own := [("at", 3)]) (g := gName 3) (tt := tYes) rfl scFronts.nd (pi_range1 rfl T.rng (pa_cons (pLen T (pv 2)) pa_nil)) (blkOk_by (N := ["book", "found", "piece", "at"]) (sc := defScope sFronts) (by decide +kernel))
            (fun _ _ _ _ _ => pg_name (i := 3) scFronts.nd rfl (Or.inl rfl)) (fun _ _ _ _ _ => pts_nil) (fun _ _ _ _ _ => pe_slice C8.sl_txt (pv 2) po_none (po_some (pv 3))) (fun _ _ _ _ _ => pe_bl)) pa_nil)))))
      (pss_one (ps_ret (pv 1)))), ?_⟩
    intro d nd
    refine ⟨upd_same, [(kx [], .bl true)], by rw [nil_S]; rfl, by decide, ?_⟩
    have S0 : Same H (upd (upd H d (.dK [])) d (.dK (mergeK [] [(kx [], V.bl true)]))) := Same.new (Same.upd nd) nd
    refine ⟨_, rfl, b, C, dx, _, _, rfl, S0 _ _ hb, cl, nP, rfl, t, rfl, ⟨_, SqT.of (S0 _ _ ht)⟩, for_walk L.length (fun i σ H' => Same H H' ∧ (∃ x, σ = [some (.ref b), some (.ref d), x, none]) ∧
      ∃ l : List (Tx × Unit), H' d = some (.dK (dk (fun _ => V.bl true) l)) ∧ l.length ≤ 1 + 8 * i ∧ ∀ w, w ∈ l.map (·.1) ↔ (w = [] ∨ ∃ p ∈ L.take i, ∃ j, j < p.length ∧ w = p.take j))
      ⟨S0, ⟨_, rfl⟩, [([], ())], upd_same, by decide, fun w => by simp⟩ (fun i σ H' hi q => ⟨_, _, SqT.of (q.1 _ _ ht), by rw [List.getElem?_map, List.getElem?_eq_getElem hi]; rfl⟩) (fun σ H' q => ⟨_, SqT.of (q.1 _ _ ht), by simp⟩) ?_ ?_⟩
    · rintro i y σ H1 H2 hi ⟨S1, ⟨x, rfl⟩, l, hl, ln, mem⟩ ⟨rfl, hy⟩
      have e := hy _ (SqT.of (S1 _ _ ht))
      rw [List.getElem?_map, List.getElem?_eq_getElem hi] at e
      obtain rfl : tx L[i] = y := Option.some.inj e
      have hm : L[i] ∈ L := List.getElem_mem hi
      have hp := pc.len _ hm
      have hi12 : i < L.length := hi
      refine ⟨_, rfl, .inr (.inr (.inl ⟨rfl, .inl ⟨_, hl⟩⟩)), _, rfl, _, L[i].length, rfl, ⟨by rw [SX.S_len]; exact sz1 (by omega), (SX.S_len _).symm⟩, _, rfl, by omega, by omega, fun D nD => ?_⟩
      refine dc_all L[i].length (fun j => dk (fun _ => V.bl true) (heads L[i] j)) rfl (fun j hj => by show j < ((L[i].length : Nat) : Int).toNat; omega) (by show ((L[i].length : Nat) : Int).toNat ≤ _; omega) (fun j x H' hj y => ?_) ?_
      · obtain ⟨rfl, rfl⟩ := y
        refine ⟨rfl, _, rfl, _, rfl, _, rfl, SX.S L[i], rfl, by rw [SX.S_len]; exact sz1 (by omega), dk (fun _ => V.bl true) (heads L[i] j), kx (L[i].take j), ?_, upd_same, ?_, ?_⟩
        · rw [SX.slice_to (by omega)]
          show tx _ = tx _
          congr 2
          omega
        · rw [dk_len]
          have := heads_len L[i] j
          exact big_lt (by omega)
        · rw [upd_upd, heads_succ]
          exact congrArg (fun z => upd H2 D (.dK z)) (putK_dk (fun _ => V.bl true) (L[i].take j) () (heads L[i] j))
      · have ndD : d ≠ D := ne_of_none hl nD
        have hl2 := heads_len L[i] L[i].length
        refine ⟨d, D, _, _, rfl, rfl, ndD, by rw [upd_ne ndD]; exact hl, upd_same, ?_, ?_⟩
        · rw [dk_len, dk_len]
          exact sz1 (by omega)
        · rw [merge_dk]
          refine ⟨Same.new (Same.new S1 (S1.free nD)) nd, ⟨_, rfl⟩, _, upd_same, ?_, fun w => ?_⟩
          · have := foldl_len (heads L[i] L[i].length) l
            omega
          · rw [foldl_keys, mem, heads_mem, List.take_add_one, List.getElem?_eq_getElem hi]
            constructor
            · rintro ((h | ⟨p, h1, h2⟩) | h)
              · exact .inl h
              · exact .inr ⟨p, List.mem_append_left _ h1, h2⟩
              · exact .inr ⟨L[i], List.mem_append_right _ (List.mem_singleton.mpr rfl), h⟩
            · rintro (h | ⟨p, h1, h2⟩)
              · exact .inl (.inl h)
              · rcases List.mem_append.mp h1 with h1 | h1
                · exact .inl (.inr ⟨p, h1, h2⟩)
                · have : p = L[i] := List.mem_singleton.mp h1
                  exact .inr (this ▸ h2)
    · rintro σ H1 ⟨S1, ⟨x, rfl⟩, l, hl, ln, mem⟩
      refine ⟨_, rfl, k d H1 S1 nd ⟨l, hl, by omega, fun w => ?_⟩⟩
      rw [mem, FT.mem_fronts, List.take_length]
theorem ok_longF {f : Addr} {fd : FuncData} (F : Fun K "longest_front" "longest_front" sLongF f fd) : FnOk P w K mg base CX0 1 f fd ["fronts", "text"] spLongF := by
  refine F.ok scLongF (fun vs H Q E h => ?_) (fun cdv A outer s H vs Q E hr h => ?_)
  · obtain ⟨_, _, _, rfl, _⟩ := h
    rfl
  · obtain ⟨d, L, x, rfl, ⟨l, hd, _, mem⟩, hx, k⟩ := h
    have hu := hu_of hr
    refine ⟨_, pss_cons (ps_while PassesOwn.never (pt_cmp (pc_dnotin hu (pv 1) (pv 0))) (pss_one (ps_set (i := 1) scLongF.nd rfl (Or.inl rfl) (pe_slice C8.sl_txt (pv 1) (po_some pe_int) po_none))))
      (pss_one (ps_ret (pv 1))), ?_⟩
    refine while_by (fun σ H' => H' = H ∧ ∃ u : Tx, σ = [some (.ref d), some (tx u)] ∧ u.length ≤ 1000 ∧ FT.lsuf L u = FT.lsuf L x) (fun σ _ => txLen 1 σ) ⟨rfl, x, rfl, hx, rfl⟩ ?_ ?_
    · rintro σ H' ⟨rfl, u, rfl, hl, e⟩
      refine ⟨_, rfl, _, rfl, d, _, rfl, dget_dk (.inl hd) u, _, rfl, ?_⟩
      rw [map_isSome, aget_dec]
      by_cases c : u ∈ l.map (·.1)
      · rw [decide_eq_true c]
        refine iteF ⟨_, rfl, ?_⟩
        show Q (tx u) H'
        rw [← FT.lsuf_self L ((mem u).mp c), e]
        exact k
      · rw [decide_eq_false c]
        cases u with
        | nil => exact absurd ((mem []).mpr (FT.nil_front L)) c
        | cons a u =>
          refine iteT ⟨_, rfl, _, rfl, SX.S (a :: u), rfl, by rw [SX.S_len]; exact sz1 (by omega), ⟨rfl, u, ?_, by simp at hl; omega, ?_⟩, ?_⟩
          · show [some (V.ref d), some (V.str (Txt.slice (SX.S (a :: u)) (some 1) none))] = _
            rw [SX.slice_from (by decide)]
            rfl
          · rw [← e, FT.lsuf_step L fun z => c ((mem _).mpr z)]
          · show (Txt.slice (SX.S (a :: u)) (some 1) none).length < (SX.S (a :: u)).length
            rw [SX.slice_from (by decide), SX.S_len, SX.S_len]
            simp
    · rintro σ H' Q1 Q2 h ⟨a, h1, b, h2, d', o, h3, h4, c, h5, h6⟩
      exact ⟨a, h1, b, h2, d', o, h3, h4, c, h5, h _ _ h6⟩
end
end FTW
end
section
set_option Elab.async false
set_option linter.all false
set_option maxRecDepth 100000
set_option maxHeartbeats 4000000
/-! next_fronts -/
namespace FTW
open PySem PySem.Spec PyProof.Rows L2 FTR
open FT (Tx Gr aget aput)
/-- while, the state told by a -/
theorem while_at {α : Type} {c : TT} {tb : TS} {D : Ends} {σ : L2.St} {H : Hp} (Pv : α → L2.St → Hp → Prop) (μ : α → Nat) (a0 : α) (h0 : Pv a0 σ H)
    (hs : ∀ a σ H, Pv a σ H → c σ H fun b H1 => if b = true then tb { D with nx := fun σ' H' => ∃ a', Pv a' σ' H' ∧ μ a' < μ a, ct := fun σ' H' => ∃ a', Pv a' σ' H' ∧ μ a' < μ a, bk := D.nx } σ H1 else D.nx σ H1)
    (mono : ∀ σ H Q Q', (∀ b H1, Q b H1 → Q' b H1) → c σ H Q → c σ H Q') : tWhile c tb D σ H := by
  refine ⟨fun m σ H => ∃ a, m = μ a ∧ Pv a σ H, ⟨_, a0, rfl, h0⟩, ?_⟩
  rintro m σ H ⟨a, rfl, p⟩
  refine mono σ H _ _ (fun b H1 q => ?_) (hs a σ H p)
  cases b with
  | true => exact ⟨_, fun σ' H' ⟨a', p', l⟩ => ⟨_, l, a', rfl, p'⟩, q⟩
  | false => exact q
theorem mono_lenpos {i : Nat} {K : PySem.W.Frag} {Z : Int} : ∀ σ H Q Q', (∀ b H1, Q b H1 → Q' b H1) → (tTest (tOp (rI0 fun i j => .bl (decide (j < i))) (tCB (rLen K) (tCons (tVar i) tNil)) (tC (.int Z)))) σ H Q → (tTest (tOp (rI0 fun i j => .bl (decide (j < i))) (tCB (rLen K) (tCons (tVar i) tNil)) (tC (.int Z)))) σ H Q' := by
  rintro σ H Q Q' h ⟨v, h1, x, n, h2, h3, i, j, h4, h5, k, h6, q⟩
  exact ⟨v, h1, x, n, h2, h3, i, j, h4, h5, k, h6, h _ _ q⟩
theorem FrAt.same {H H' : Hp} {d : Addr} {P : List Tx} (s : Same H H') (h : FrAt H d P) : FrAt H' d P := by
  obtain ⟨l, h1, h2⟩ := h
  exact ⟨l, s _ _ h1, h2⟩
theorem FrAt.ne {H : Hp} {d a : Addr} {P : List Tx} (h : FrAt H d P) (n : H a = none) : d ≠ a := by
  obtain ⟨l, h1, _⟩ := h
  exact ne_of_none h1 n
theorem FrAt.upd {H : Hp} {d a : Addr} {o : HO} {P : List Tx} (h : FrAt H d P) (n : d ≠ a) : FrAt (L2.upd H a o) d P := by
  obtain ⟨l, h1, h2⟩ := h
  exact ⟨l, by rw [upd_ne n]; exact h1, h2⟩
/-- a row has grown by one letter -/
theorem succs_take {P : List Tx} {own : List Nat} {f : Tx} {i c : Nat} (h : own[i]? = some c) :
    FT.succs P (own.take (i + 1)) f = FT.succs P (own.take i) f ++ (if FT.blk P (f ++ [c]) = true then [] else [(c, FT.lsuf P (f ++ [c]))]) := by
  unfold FT.succs
  rw [List.take_add_one, h, List.filterMap_append]
  congr 1
  simp only [Option.toList, List.filterMap_cons, List.filterMap_nil]
  split <;> split <;> simp_all
theorem succs_new {P : List Tx} {own : List Nat} {f : Tx} {i c : Nat} (nd : own.Nodup) (h : own[i]? = some c) : c ∉ (FT.succs P (own.take i) f).map (·.1) := by
  intro z
  obtain ⟨⟨d, b⟩, hm, e⟩ := List.mem_map.mp z
  simp only at e
  subst e
  have hd := ((FT.mem_succs P _).mp hm).1
  obtain ⟨j, hj, e⟩ := List.mem_take_iff_getElem.mp hd
  obtain ⟨hi, e2⟩ := List.getElem?_eq_some_iff.mp h
  have := (List.getElem_inj nd).mp (e.trans e2.symm)
  omega
theorem front_len {P : List Tx} (pc : Pcs P) {f : Tx} (h : f ∈ FT.fronts P) : f.length ≤ 8 := by
  rcases (FT.mem_fronts P).mp h with rfl | ⟨p, hp, i, hi, rfl⟩
  · exact Nat.zero_le _
  · have := pc.len p hp
    rw [List.length_take]
    omega
theorem fronts_few {P : List Tx} (pc : Pcs P) : (FT.fronts P).length ≤ 97 := by
  unfold FT.fronts
  rw [List.length_cons]
  have : ∀ L : List Tx, (∀ p ∈ L, p.length ≤ 8) → (L.flatMap fun p => (List.range p.length).map fun i => p.take i).length ≤ L.length * 8 := by
    intro L
    induction L with
    | nil => intro _; exact Nat.zero_le _
    | cons p L ih =>
      intro h
      have h1 := h p List.mem_cons_self
      have h2 := ih fun q hq => h q (List.mem_cons_of_mem _ hq)
      rw [List.flatMap_cons, List.length_append, List.length_map, List.length_range, List.length_cons, Nat.succ_mul]
      omega
  have := this P pc.len
  have := pc.few
  omega
theorem gmeas_few {P : List Tx} (pc : Pcs P) : FT.gmeas P (ownOf P) ([[]], []) ≤ 1000 := by
  have h1 := fronts_few pc
  have h2 := (own_ownOf pc).len pc
  unfold FT.gmeas
  have : (FT.fronts P).length * ((ownOf P).length + 1) ≤ 97 * 9 := Nat.mul_le_mul h1 (by omega)
  simp only [List.length_nil, List.length_singleton, Nat.sub_zero]
  omega
theorem wait_few {P : List Tx} {own : List Nat} {w : List Tx} {g : Gr} {n : Nat} (h : FT.gmeas P own (w, g) ≤ n) : w.length ≤ n := by
  unfold FT.gmeas at h
  simp only at h
  omega
abbrev sNext : Stmt := top 24
theorem scNext : FnScope ["book", "fronts", "found", "waiting", "front", "letter", "text", "piece"] ["book"] (defScope sNext) := ⟨rfl, rfl, rfl, by decide +kernel, rfl, by decide +kernel, by decide +kernel⟩
def spNext (K : PySem.W.Frag) (C : Addr) : Sp := fun vs H Q _ => ∃ b P, vs = [.ref b] ∧ BookAt K C H b P ∧ Pcs P ∧ ∀ d g H', FT.IsG P (ownOf P) g → Same H H' → StepsAt H' d g → H d = none → Q (.ref d) H'
section
variable {P : Program} {w : World} {K : PySem.W.Frag} {mg : Str → Option Value} {base : Heap}
theorem ok_next {f C : Addr} {fd : FuncData} (F : Fun K "next_fronts" "next_fronts" sNext f fd) (T : Bt mg) (cl : Cls K C) (nP : NoAttr K C "pieces")
    (hF : Has P w K mg base CX0 1 sFronts "fronts_of" ["book"] (spFronts K C)) (hL : Has P w K mg base CX0 1 sLetters "letters" ["book"] (spLetters K C)) (hG : Has P w K mg base CX0 1 sLongF "longest_front" ["fronts", "text"] spLongF) :
    FnOk P w K mg base CX0 2 f fd ["book"] (spNext K C) := by
  obtain ⟨fF, fdF, DF, GF⟩ := hF
  obtain ⟨fL, fdL, DL, GL⟩ := hL
  obtain ⟨fG, fdG, DG, GG⟩ := hG
  refine F.ok scNext (fun vs H Q E h => ?_) (fun cdv A outer s H vs Q E hr h => ?_)
  · obtain ⟨_, _, rfl, _⟩ := h
    rfl
  · obtain ⟨b, L, rfl, hb, pc, k⟩ := h
    have pf := pc.few
    have hu := hu_of hr
    have oo := own_ownOf pc
    have ol := oo.len pc
    have on : (ownOf L).Nodup := oo.1.imp fun z => Nat.ne_of_lt z
    refine ⟨_, pss_cons (ps_set (i := 1) scNext.nd rfl (Or.inl rfl) (pe_call GF hr rfl DF.g DF.F.kp DF.b .nil pass0 (pa_cons (pv 0) pa_nil)))
      (pss_cons (ps_set (i := 2) scNext.nd rfl (Or.inl rfl) pe_dnewK)
      (pss_cons (ps_set (i := 3) scNext.nd rfl (Or.inl rfl) (pe_lst (pa_cons pe_str pa_nil)))
      (pss_cons (ps_while PassesOwn.never (pt_cmpR op_gt (pLen T (pv 3)) pe_int (nomark _))
        (pss_cons (ps_set (i := 4) scNext.nd rfl (Or.inl rfl) (pe_bm0 PySem.F.plainAttrs_list PySem.F.slot_list_pop PySem.F.type_list_pop mt_pop (pv 3)))
        (pss_one (ps_if (pt_cmp (pc_dnotin hu (pv 4) (pv 2)))
          (pss_cons (ps_dput hu (pv 2) (pv 4) pe_dnewK rfl)
          (pss_one (ps_for PassesOwn.never rfl (pi_str (pe_call GL hr rfl DL.g DL.F.kp DL.b .nil pass0 (pa_cons (pv 0) pa_nil))) (pg_name (i := 5) scNext.nd rfl (Or.inl rfl))
            (pss_cons (ps_set (i := 6) scNext.nd rfl (Or.inr rfl) (pe_op op_add_str (pv 4) (pv 5)))
            (pss_one (ps_if (pt_not (pt_val (pAny T rfl (pe_lc (own := [("piece", 7)]) (g := gName 7) (tt := tYes) rfl scNext.nd (pi_tup (pe_fld (pv 0) rfl)) (blkOk_by (N := ["book", "fronts", "found", "waiting", "front", "letter", "text", "piece"]) (sc := defScope sNext) (by decide +kernel))
                  (fun _ _ _ _ _ => pg_name (i := 7) scNext.nd rfl (Or.inl rfl)) (fun _ _ _ _ _ => pts_nil) (fun _ _ _ _ _ => pe_m1 PySem.F.slot_str_endswith PySem.F.type_str_endswith mt_endswith (pv 6) (pv 7))))))
              (pss_cons (ps_dput hu (pe_dget hu (pv 2) (pv 4) (fun _ _ => rfl)) (pv 5) (pe_call GG hr rfl DG.g DG.F.kp DG.b .nil pass0 (pa_cons (pv 1) (pa_cons (pv 6) pa_nil))) rfl)
              (pss_one (ps_expr (pe_bm PySem.F.plainAttrs_list PySem.F.slot_list_append PySem.F.type_list_append mt_append (pv 3) (pa_cons (pe_dget hu (pe_dget hu (pv 2) (pv 4) (fun _ _ => rfl)) (pv 5) (fun _ _ => rfl)) pa_nil)))))
              pss_nil))))))
          pss_nil))))
      (pss_one (ps_ret (pv 2)))))), ?_⟩
    refine ⟨_, rfl, b, L, rfl, hb, pc, fun fr H1 S1 nfr hfr => ?_⟩
    intro d nd
    have nd0 : H d = none := S1.free nd
    refine ⟨by show 1 ≤ sizeLine; exact sz1 (by omega), fun wl nwl => ?_⟩
    have nwl1 : H1 wl = none := (Same.upd nd).free nwl
    have nwl0 : H wl = none := S1.free nwl1
    have ndw : d ≠ wl := ne_of_none upd_same nwl
    have nfd : fr ≠ d := hfr.ne nd
    have nfw : fr ≠ wl := hfr.ne nwl1
    refine while_at (α := List Tx × Gr) (fun a σ H' => ∃ x4 x5 x6 as, σ = [some (.ref b), some (.ref fr), some (.ref d), some (.ref wl), x4, x5, x6, none] ∧ Same H H' ∧ FrAt H' fr L ∧ H' d = some (.dK (dk V.ref as)) ∧ Rows H' d a.2 as ∧
        H' wl = some (.lst (a.1.map tx)) ∧ FT.Gone L (ownOf L) a ∧ FT.gmeas L (ownOf L) a ≤ 1000) (FT.gmeas L (ownOf L)) ([[]], [])
      ⟨_, _, _, [], rfl, Same.new (Same.new S1 nd0) nwl0, (hfr.upd nfd).upd nfw, by rw [upd_ne ndw, upd_same]; rfl, .nil, by rw [upd_same]; rfl, .start, gmeas_few pc⟩ ?_ mono_lenpos
    rintro ⟨wk, g⟩ σ H2 ⟨x4, x5, x6, as, rfl, S2, hf2, hd2, hr2, hw2, gn, gm⟩
    have wf := wait_few gm
    refine ⟨_, rfl, _, wk.length, rfl, .inl ⟨_, SqL.of hw2, by simp⟩, _, _, rfl, rfl, _, rfl, ?_⟩
    rcases List.eq_nil_or_concat wk with e | ⟨wk', ft, e⟩
    · subst e
      exact ifF (by decide) ⟨_, rfl, k d g H2 gn S2 ⟨as, hd2, hr2⟩ nd0⟩
    rw [List.concat_eq_append] at e
    subst e
    refine ifT (by simp) ?_
    have hft : ft ∈ FT.fronts L := gn.inv.frt ft (.inr (List.mem_append_right _ (List.mem_singleton.mpr rfl)))
    have fl := front_len pc hft
    have hw2' : H2 wl = some (.lst (wk'.map tx ++ [tx ft])) := by rw [hw2, List.map_append]; rfl
    refine ⟨_, rfl, .inl ⟨rfl, _, SqL.of hw2⟩, wl, _, tx ft, rfl, rfl, hw2', by simp, ?_⟩
    rw [List.dropLast_concat]
    have ndw2 : d ≠ wl := ndw
    have hd3 : (upd H2 wl (.lst (wk'.map tx))) d = some (.dK (dk V.ref as)) := by rw [upd_ne ndw]; exact hd2
    have keys := hr2.keys
    refine ⟨_, rfl, _, rfl, d, _, rfl, dget_dk (.inl hd3) ft, _, rfl, ?_⟩
    rw [map_isSome, aget_dec, keys]
    have hrw : ∀ p ∈ as, p.2 ≠ wl := fun p hp => by
      obtain ⟨_, r, e⟩ := hr2.mem hp
      exact ne_of e hw2 (by intro z; cases z)
    by_cases hin : ft ∈ g.map (·.1)
    · rw [decide_eq_true hin]
      refine iteF ⟨(wk', g), ⟨_, _, _, as, rfl, Same.new S2 nwl0, hf2.upd nfw, hd3, hr2.same fun p hp o e => by rw [upd_ne (hrw p hp)]; exact e, upd_same, gn.old hin, ?_⟩, FT.gmeas_old⟩
      exact Nat.le_trans (Nat.le_of_lt FT.gmeas_old) gm
    · rw [decide_eq_false hin]
      refine iteT ?_
      -- found[front] = {}
      intro a na
      have naw : a ≠ wl := fun z => by rw [z, upd_same] at na; cases na
      have na2 : H2 a = none := by rw [upd_ne naw] at na; exact na
      have na0 : H a = none := S2.free na2
      have nad : a ≠ d := fun z => by rw [z, hd2] at na2; cases na2
      have naf : fr ≠ a := hf2.ne na2
      have nas : ∀ p ∈ as, p.2 ≠ a := fun p hp => by
        obtain ⟨_, r, e⟩ := hr2.mem hp
        exact ne_of_none e na2
      have glen : g.length ≤ 97 := Nat.le_trans gn.inv.len (fronts_few pc)
      have aslen : as.length ≤ 97 := by rw [hr2.len]; exact glen
      refine ⟨_, rfl, _, rfl, d, _, rfl, dput_dk (f := V.ref) (v := a) (by rw [upd_ne nad.symm]; exact hd3) (by omega) ft, ?_⟩
      rw [FT.aput_new (by rw [keys]; exact hin)]
      refine ⟨_, rfl, b, L, rfl, hb.same (Same.new (Same.new (Same.new S2 nwl0) na0) nd0), pc, fun own H3 ho S3 => ?_⟩
      rw [own_eq pc ho]
      refine ⟨_, rfl, ?_⟩
      refine for_walk (ownOf L).length (fun i σ H' => (∃ x5 x6, σ = [some (.ref b), some (.ref fr), some (.ref d), some (.ref wl), some (tx ft), x5, x6, none]) ∧ Same H H' ∧ FrAt H' fr L ∧ H' d = some (.dK (dk V.ref (as ++ [(ft, a)]))) ∧ Rows H' d g as ∧
          H' a = some (.dK (rowD (FT.succs L ((ownOf L).take i) ft))) ∧ H' wl = some (.lst ((wk' ++ (FT.succs L ((ownOf L).take i) ft).map (·.2)).map tx)))
        ⟨⟨_, _, rfl⟩, (Same.new (Same.new (Same.new S2 nwl0) na0) nd0).trans S3, ((((hf2.upd nfw).upd naf).upd nfd)).same S3, S3 _ _ upd_same, ?_, S3 _ _ (by rw [upd_ne nad, upd_same]; rfl), S3 _ _ (by rw [upd_ne ndw.symm, upd_ne naw.symm, upd_same]; simp [FT.succs])⟩
        (fun i σ H' hi _ => by show i < (ownOf L).toArray.size; simpa using hi) (fun σ H' _ => by show (ownOf L).toArray.size ≤ _; simp) ?_ ?_
      · exact hr2.same fun p hp o e => S3 _ _ (by rw [upd_ne (hr2.mem hp).1, upd_ne (nas p hp), upd_ne (hrw p hp)]; exact e)
      · rintro i y σ H4 H5 hi ⟨⟨y5, y6, rfl⟩, S4, hf4, hd4, hr4, ha4, hw4⟩ ⟨rfl, c, hc, rfl⟩
        have hc' : (ownOf L)[i]? = some c := by simpa using hc
        have st := succs_take (P := L) (f := ft) hc'
        have sl := FT.succs_len (P := L) (own := (ownOf L).take i) ft
        have sl2 : ((ownOf L).take i).length ≤ 8 := by rw [List.length_take]; omega
        refine ⟨_, rfl, _, rfl, SX.S ft, ⟨#[c]⟩, rfl, rfl, by rw [SX.S_len]; exact sz1 (by show ft.length + 1 ≤ _; omega), ?_⟩
        have e1 : SX.S ft ++ (⟨#[c]⟩ : Str) = SX.S (ft ++ [c]) := add_S ft [c]
        rw [e1]
        obtain ⟨dx, t, hb4, ht4⟩ := hb.same S4
        refine ⟨_, rfl, b, C, dx, _, _, rfl, hb4, cl, nP, rfl, t, rfl, ⟨_, SqT.of ht4⟩, fun D new => lc_mapT L tx (fun p => .bl (p.isSuffixOf (ft ++ [c]))) (SqT.of ht4) new (by omega) (fun j p e acc hz => ?_) ?_⟩
        · refine ⟨rfl, _, rfl, ⟨_, rfl⟩, _, rfl, _, _, rfl, rfl, ?_⟩
          rw [ends_tx]
          exact lc_end hz rfl
        have ndD : d ≠ D := ne_of_none hd4 new
        have naD : a ≠ D := ne_of_none ha4 new
        have nwD : wl ≠ D := ne_of_none hw4 new
        have nfD : fr ≠ D := hf4.ne new
        have nrD : ∀ p ∈ as, p.2 ≠ D := fun p hp => by
          obtain ⟨_, r, e⟩ := hr4.mem hp
          exact ne_of_none e new
        refine ⟨D, L.map fun p => p.isSuffixOf (ft ++ [c]), rfl, SqL.of (by rw [upd_same, List.map_map]; rfl), _, rfl, ?_⟩
        rw [any_map]
        have S5 : Same H (upd H5 D (.lst (L.map fun p => V.bl (p.isSuffixOf (ft ++ [c]))))) := Same.new S4 (S4.free new)
        have hd5 : (upd H5 D (.lst (L.map fun p => V.bl (p.isSuffixOf (ft ++ [c]))))) d = some (.dK (dk V.ref (as ++ [(ft, a)]))) := by rw [upd_ne ndD]; exact hd4
        have ha5 : (upd H5 D (.lst (L.map fun p => V.bl (p.isSuffixOf (ft ++ [c]))))) a = some (.dK (rowD (FT.succs L ((ownOf L).take i) ft))) := by rw [upd_ne naD]; exact ha4
        have hw5 : (upd H5 D (.lst (L.map fun p => V.bl (p.isSuffixOf (ft ++ [c]))))) wl = some (.lst ((wk' ++ (FT.succs L ((ownOf L).take i) ft).map (·.2)).map tx)) := by rw [upd_ne nwD]; exact hw4
        have hf5 : FrAt (upd H5 D (.lst (L.map fun p => V.bl (p.isSuffixOf (ft ++ [c]))))) fr L := hf4.upd nfD
        have hr5 : Rows (upd H5 D (.lst (L.map fun p => V.bl (p.isSuffixOf (ft ++ [c]))))) d g as := hr4.same fun p hp o e => by rw [upd_ne (nrD p hp)]; exact e
        have getf : aget (as ++ [(ft, a)]) ft = some a := by
          rw [FT.aget_append, FT.aget_none.mpr (by rw [keys]; exact hin)]
          simp [aget]
        generalize upd H5 D (.lst (L.map fun p => V.bl (p.isSuffixOf (ft ++ [c])))) = H6 at S5 hd5 ha5 hw5 hf5 hr5 ⊢
        show if (!FT.blk L (ft ++ [c])) = true then _ else _
        cases eb : FT.blk L (ft ++ [c]) with
        | true =>
          rw [if_pos eb, List.append_nil] at st
          refine iteF ⟨⟨_, _, rfl⟩, S5, hf5, hd5, hr5, ?_, ?_⟩
          · rw [st]; exact ha5
          · rw [st]; exact hw5
        | false =>
          rw [if_neg (by rw [eb]; exact Bool.false_ne_true)] at st
          have nw := succs_new (P := L) (f := ft) on hc'
          refine iteT ⟨_, rfl, _, rfl, fr, L, ft ++ [c], rfl, hf5, by rw [List.length_append]; simp; omega, ?_⟩
          have put : DPut H6 a (tx [c]) (tx (FT.lsuf L (ft ++ [c]))) (upd H6 a (.dK (rowD (FT.succs L ((ownOf L).take (i + 1)) ft)))) := by
            have := dput_dk (f := tx) (v := FT.lsuf L (ft ++ [c])) (k := [c]) (show H6 a = some (.dK (dk tx ((FT.succs L ((ownOf L).take i) ft).map fun cb => ([cb.1], cb.2)))) from ha5) (by rw [List.length_map]; omega)
            rw [aput_one nw, ← st] at this
            exact this
          refine ⟨_, rfl, _, rfl, d, .ref a, rfl, dget_some (.inl hd5) getf, _, rfl, a, _, rfl, put, ?_⟩
          have ndw5 := ndw
          have got : aget ((FT.succs L ((ownOf L).take (i + 1)) ft).map fun cb => ([cb.1], cb.2)) ([c] : Tx) = some (FT.lsuf L (ft ++ [c])) := by
            rw [st, List.map_append, FT.aget_append, FT.aget_none.mpr ?_]
            · simp [aget]
            · intro z
              obtain ⟨p, hp, e⟩ := List.mem_map.mp z
              obtain ⟨q, hq, rfl⟩ := List.mem_map.mp hp
              exact nw (List.mem_map.mpr ⟨q, hq, by simpa using e⟩)
          refine ⟨_, rfl, .inl ⟨rfl, _, SqL.of (by rw [upd_ne naw.symm]; exact hw5)⟩, _, rfl, _, rfl, d, .ref a, rfl, dget_some (.inl (by rw [upd_ne nad.symm]; exact hd5)) getf, _, rfl, a, _, rfl, dget_some (f := tx) (.inl upd_same) got, ?_⟩
          refine ⟨wl, _, _, rfl, rfl, by rw [upd_ne naw.symm]; exact hw5, ?_, ⟨_, _, rfl⟩, Same.new (Same.new S5 na0) nwl0, (hf5.upd naf).upd nfw, by rw [upd_ne ndw, upd_ne nad.symm]; exact hd5, ?_, by rw [upd_ne naw, upd_same], ?_⟩
          · rw [List.length_map, List.length_append, List.length_map]
            have := wf
            rw [List.length_append, List.length_singleton] at this
            exact big_lt (by omega)
          · exact hr5.same fun p hp o e => by rw [upd_ne (hrw p hp), upd_ne (nas p hp)]; exact e
          · rw [upd_same, st]
            simp
      · rintro σ H4 ⟨⟨y5, y6, rfl⟩, S4, hf4, hd4, hr4, ha4, hw4⟩
        rw [List.take_length] at ha4 hw4
        refine ⟨(wk' ++ (FT.succs L (ownOf L) ft).map (·.2), g ++ [(ft, FT.succs L (ownOf L) ft)]), ⟨_, _, _, as ++ [(ft, a)], rfl, S4, hf4, hd4, ?_, hw4, gn.new hin, ?_⟩, FT.gmeas_new gn hin⟩
        · exact Paired.snoc hr4 ⟨rfl, nad, ha4⟩
        · exact Nat.le_trans (Nat.le_of_lt (FT.gmeas_new gn hin)) gm
end
end FTW
end
section
set_option Elab.async false
set_option linter.all false
set_option maxRecDepth 100000
set_option maxHeartbeats 4000000
/-! heights, what is enough -/
namespace FTW
open PySem PySem.Spec PyProof.Rows L2 FTR
open FT (Tx Gr aget aput)
/-! ### under a lock -/
theorem Same.lock {H H' : Hp} {d : Addr} {o : HO} (s : Same H H') : Same (L2.upd H d o) (L2.upd H' d o) := fun b u e => by
  by_cases c : b = d
  · subst c
    rw [upd_same] at e ⊢
    exact e
  · rw [upd_ne c] at e ⊢
    exact s b u e
/-- the steps, held fast while they are walked -/
def LStepsAt (H : Hp) (d : Addr) (od : Obj) (g : Gr) (as : List (Tx × Addr)) : Prop := H d = some (.frz od (.dK (dk V.ref as))) ∧ Rows H d g as
theorem Rows.lock {H : Hp} {d : Addr} {g : Gr} {as : List (Tx × Addr)} {o : HO} (h : Rows H d g as) : Rows (upd H d o) d g as := h.same fun p hp u e => by rw [upd_ne (h.mem hp).1]; exact e
theorem LStepsAt.same {H H' : Hp} {d : Addr} {od : Obj} {g : Gr} {as : List (Tx × Addr)} (s : Same H H') (h : LStepsAt H d od g as) : LStepsAt H' d od g as := ⟨s _ _ h.1, h.2.same fun p _ o e => s _ _ e⟩
section
variable {g : TG} {tt : TT} {te : TE} {vs : List Nat} {σ : L2.St} {H1 : Hp} {D : Addr} {Qd : Hp → Prop}
/-- [.. for b in row.values()], the row locked -/
theorem lc_row {a : Addr} {od : Obj} (r : List (Nat × Tx)) (f : Nat × Tx → V) (hl : H1 a = some (.frz od (.dK (rowD r)))) (new : H1 D = none) (sz : r.length ≤ 100000)
    (hs : ∀ (i : Nat) cb, r[i]? = some cb → ∀ acc, acc.length < sizeLine → g (tx cb.2) (wipe σ vs) (upd H1 D (.lst acc)) fun σ2 H2 => wipe σ2 vs = wipe σ vs ∧
      te σ2 H2 fun y H4 => ∃ ac, H4 D = some (.lst ac) ∧ ac.length < sizeLine ∧ upd H4 D (.lst (ac ++ [y])) = upd H1 D (.lst (acc ++ [f cb]))) (hd : Qd (upd H1 D (.lst (r.map f))))
    (mg : ∀ x σ H Q Q', (∀ σ2 H2, Q σ2 H2 → Q' σ2 H2) → g x σ H Q → g x σ H Q' := by intro _ _ _ _ _ k h; exact k _ _ h) :
    ∃ W : Nat → Nat → Hp → Prop, (∃ m, W 0 m (upd H1 D (.lst []))) ∧ ∀ i m H, W i m H →
      ((Itd a od (rowD r)).stop i H ∧ Qd H) ∨ ((Itd a od (rowD r)).go i H ∧ ∃ Nx : Hp → Prop, (∀ H', Nx H' → ∃ m', m' < m ∧ W (i + 1) m' H') ∧ ∀ x H', (Itd a od (rowD r)).yld i H x H' → g x (wipe σ vs) H' fun σ2 H2 => wipe σ2 vs = wipe σ vs ∧ tYes σ2 H2 fun b H3 =>
        if b = true then te σ2 H3 fun y H4 => ∃ acc, H4 D = some (.lst acc) ∧ acc.length < sizeLine ∧ Nx (upd H4 D (.lst (acc ++ [y]))) else Nx H3) := by
  have naD : a ≠ D := ne_of_none hl new
  have len : (rowD r).length = r.length := by simp [rowD, dk]
  refine lc_all r.length (fun i => (r.take i).map f) rfl (fun i hi => ⟨by rw [upd_ne naD]; exact hl, by rw [len]; exact hi⟩) ⟨by rw [upd_ne naD]; exact hl, by rw [len]; exact Nat.le_refl _⟩ (fun i x H' hi y => ?_) (by simpa using hd) (mg := mg)
  obtain ⟨rfl, k, e⟩ := y
  have e' := List.getElem?_eq_getElem hi
  have : x = tx r[i].2 := by
    unfold rowD dk at e
    rw [List.getElem?_map, List.getElem?_map, e'] at e
    cases e
    rfl
  subst this
  have := hs i _ e' ((r.take i).map f) (big_lt (by simp; omega))
  rw [← take_map_succ (f := f) e'] at this
  exact this
end
abbrev sHts : Stmt := top 26
theorem scHts : FnScope ["steps", "found", "grown", "front", "later"] ["steps"] (defScope sHts) := ⟨rfl, rfl, rfl, by decide +kernel, rfl, by decide +kernel, by decide +kernel⟩
def spHts : Sp := fun vs H Q _ => ∃ d g P own, vs = [.ref d] ∧ StepsAt H d g ∧ FT.Whole P own g ∧ g.length ≤ 100 ∧ own.length ≤ 8 ∧ ∀ e F H', FT.Hts g F → Same H H' → H e = none → H' e = some (.dK (dk V.int F)) → Q (.ref e) H'
section
variable {P : Program} {w : World} {K : PySem.W.Frag} {mg : Str → Option Value} {base : Heap}
theorem ok_hts {f : Addr} {fd : FuncData} (F : Fun K "heights" "heights" sHts f fd) (T : Bt mg) : FnOk P w K mg base CX0 1 f fd ["steps"] spHts := by
  refine F.ok scHts (fun vs H Q E h => ?_) (fun cdv A outer s H vs Q E hr h => ?_)
  · obtain ⟨_, _, _, _, rfl, _⟩ := h
    rfl
  · obtain ⟨d, g, L, own, rfl, ⟨as, hd, hrow⟩, wh, gl, ol, k⟩ := h
    have hu := hu_of hr
    have al := hrow.len
    have keys := hrow.keys
    refine ⟨_, pss_cons (ps_set (i := 1) scHts.nd rfl (Or.inr rfl) pe_dnewK)
      (pss_cons (ps_set (i := 2) scHts.nd rfl (Or.inl rfl) pe_bl)
      (pss_cons (ps_while PassesOwn.never (pt_val (pv 2))
        (pss_cons (ps_set (i := 2) scHts.nd rfl (Or.inl rfl) pe_bl)
        (pss_one (ps_lock (ps_for PassesOwn.never rfl (pi_keys (pv 0)) (pg_name (i := 3) scHts.nd rfl (Or.inl rfl))
          (pss_one (ps_if (PW.pt (pw_and (pt_cmp (pc_dnotin hu (pv 3) (pv 1))) (pw_and1 (pt_val (pe_lock (pAll T rfl
              (pe_lc (own := [("later", 4)]) (g := gName 4) (tt := tYes) rfl scHts.nd (pi_values (pe_dget hu (pv 0) (pv 3) (fun _ _ => rfl))) (blkOk_by (N := ["steps", "found", "grown", "front", "later"]) (sc := defScope sHts) (by decide +kernel))
                (fun _ _ _ _ _ => pg_name (i := 4) scHts.nd rfl (Or.inl rfl)) (fun _ _ _ _ _ => pts_nil) (fun _ _ _ _ _ => pe_cmp (pc_din hu (pv 4) (pv 1)) rfl))))))))
            (pss_cons (ps_dput hu (pv 1) (pv 3) (pe_lock (pe_callBK (cr_maxDf (d := 0) rfl hr.units) rfl T.max (by decide +kernel) (pa_cons
                (pe_lc (own := [("later", 4)]) (g := gName 4) (tt := tYes) rfl scHts.nd (pi_values (pe_dget hu (pv 0) (pv 3) (fun _ _ => rfl))) (blkOk_by (N := ["steps", "found", "grown", "front", "later"]) (sc := defScope sHts) (by decide +kernel))
                (fun _ _ _ _ _ => pg_name (i := 4) scHts.nd rfl (Or.inl rfl)) (fun _ _ _ _ _ => pts_nil) (fun _ _ _ _ _ => pe_op op_add (pe_dget hu (pv 1) (pv 4) (fun _ _ => rfl)) pe_int)) pa_nil) (pk_cons pe_int pk_nil))) rfl)
            (pss_one (ps_set (i := 2) scHts.nd rfl (Or.inl rfl) pe_bl)))
            pss_nil)))))))
      (pss_one (ps_ret (pv 1))))), ?_⟩
    intro e ne
    have hd0 := hd
    refine while_at (α := List (Tx × Int) × Bool) (fun a σ H' => ∃ x3, σ = [some (.ref d), some (.ref e), some (.bl a.2), x3, none] ∧ Same H H' ∧ H' e = some (.dK (dk V.int a.1)) ∧ FT.HPart g a.1 ∧ (a.2 = false → FT.Hts g a.1))
      (fun a => if a.2 = true then g.length + 1 - a.1.length else 0) ([], true) ⟨_, rfl, Same.upd ne, by rw [upd_same]; rfl, .nil g, fun z => nomatch z⟩ ?_ ?_
    · rintro ⟨F0, gb⟩ σ H2 ⟨x3, rfl, S2, he2, hp, hc⟩
      refine ⟨_, rfl, gb, rfl, ?_⟩
      cases gb with
      | false => exact iteF ⟨_, rfl, k e F0 H2 (hc rfl) S2 ne he2⟩
      | true =>
        refine iteT ⟨d, .dK (dk V.ref as), S2 _ _ hd, True.intro, fun od => ?_⟩
        have F0len : F0.length ≤ g.length := by have := FT.nodup_len hp.nd hp.sub; simpa using this
        have ned : e ≠ d := fun z => by rw [z, hd] at ne; cases ne
        have rowB : Rows (upd H d (.frz od (.dK (dk V.ref as)))) d g as := hrow.lock
        have neB : (upd H d (.frz od (.dK (dk V.ref as)))) e = none := by rw [upd_ne ned]; exact ne
        refine ⟨_, rfl, d, od, rfl, .inl ⟨_, upd_same, for_walk g.length (fun i σ H' => ∃ F' gb' x3, σ = [some (.ref d), some (.ref e), some (.bl gb'), x3, none] ∧ Same (upd H d (.frz od (.dK (dk V.ref as)))) H' ∧ H' e = some (.dK (dk V.int F')) ∧ FT.HPart g F' ∧
            (gb' = false → F' = F0 ∧ ∀ f ∈ (g.take i).map (·.1), f ∉ F0.map (·.1) → ∃ c b, (c, b) ∈ FT.rowOf g f ∧ b ∉ F0.map (·.1)) ∧ (gb' = true → F0.length < F'.length))
          ⟨F0, false, x3, rfl, Same.lock S2, by rw [upd_ne ned]; exact he2, hp, fun _ => ⟨rfl, fun f hf => by simp at hf⟩, fun z => nomatch z⟩
          (fun i σ H' hi q => ?_) (fun σ H' q => ?_) ?_ ?_⟩⟩
        · obtain ⟨_, _, _, _, S3, _⟩ := q
          exact ⟨S3 _ _ upd_same, by rw [dk_len, al]; exact hi⟩
        · obtain ⟨_, _, _, _, S3, _⟩ := q
          exact ⟨S3 _ _ upd_same, by rw [dk_len, al]; exact Nat.le_refl _⟩
        · rintro i y σ H3 H4 hi ⟨F1, gb1, x3, rfl, S3, he3, hp3, c0, c1⟩ ⟨rfl, kk, vv, hy, rfl⟩
          obtain ⟨f1, a1, hy2, rfl, rfl⟩ := dk_get hy
          have F1len : F1.length ≤ g.length := by have := FT.nodup_len hp3.nd hp3.sub; simpa using this
          have hfi : (g.map (·.1))[i]? = some f1 := by rw [← keys, List.getElem?_map, hy2]; rfl
          have hfg : f1 ∈ g.map (·.1) := List.mem_of_getElem? hfi
          have tk : (g.take (i + 1)).map (·.1) = (g.take i).map (·.1) ++ [f1] := by
            rw [List.map_take, List.take_add_one, hfi, List.map_take]; rfl
          have hag := wh.get hfg
          have rw1 : FT.rowOf g f1 = FT.succs L own f1 := wh.row' hfg
          have rl : (FT.succs L own f1).length ≤ 8 := Nat.le_trans (FT.succs_len f1) ol
          obtain ⟨a, haa, nad, haB⟩ := rowB.get hag
          generalize FT.succs L own f1 = r at hag rw1 rl haB
          have hd4 := S3 _ _ (show (upd H d (.frz od (.dK (dk V.ref as)))) d = _ from upd_same)
          have ha4 := S3 _ _ haB
          have nea : e ≠ a := fun z => by rw [← z, neB] at haB; cases haB
          refine ⟨_, rfl, _, rfl, e, _, rfl, dget_dk (.inl he3) f1, _, rfl, ?_⟩
          rw [map_isSome, aget_dec]
          by_cases hin : f1 ∈ F1.map (·.1)
          · rw [decide_eq_true hin]
            refine iteF (iteF ⟨F1, gb1, _, rfl, S3, he3, hp3, fun z => ⟨(c0 z).1, fun f hf hn => ?_⟩, c1⟩)
            rw [tk] at hf
            rcases List.mem_append.mp hf with hf | hf
            · exact (c0 z).2 f hf hn
            · rw [List.mem_singleton.mp hf, ← (c0 z).1] at hn
              exact absurd hin hn
          · rw [decide_eq_false hin]
            refine iteT ⟨a, .dK (rowD r), ha4, True.intro, fun od2 => ?_⟩
            have nda := nad
            refine ⟨_, rfl, _, rfl, d, .ref a, rfl, dget_some (.inr ⟨od, by rw [upd_ne nad.symm]; exact hd4⟩) haa, a, od2, _, rfl, upd_same, fun D nD => ?_⟩
            have naD : a ≠ D := ne_of_none upd_same nD
            have neD : e ≠ D := ne_of_none (show (upd H4 a (.frz od2 (.dK (rowD r)))) e = _ by rw [upd_ne nea]; exact he3) nD
            refine lc_row r (fun cb => .bl (decide (cb.2 ∈ F1.map (·.1)))) upd_same nD (by omega) (fun j cb ej acc hz => ?_) ?_
            · refine ⟨rfl, _, rfl, _, rfl, e, _, rfl, dget_dk (.inl (by rw [upd_ne neD, upd_ne nea]; exact he3)) cb.2, ?_⟩
              rw [map_isSome, aget_dec]
              exact lc_end hz rfl
            · refine ⟨D, r.map fun cb => decide (cb.2 ∈ F1.map (·.1)), rfl, SqL.of (by rw [upd_same, List.map_map]; rfl), by rw [upd_ne naD, upd_same], _, rfl, ?_⟩
              rw [all_map]
              have S5 : Same H4 (upd (upd (upd H4 a (.frz od2 (.dK (rowD r)))) D (.lst (r.map fun cb => V.bl (decide (cb.2 ∈ F1.map (·.1)))))) a (.dK (rowD r))) := Same.unlock ha4 (Same.upd nD)
              generalize upd (upd (upd H4 a (.frz od2 (.dK (rowD r)))) D (.lst (r.map fun cb => V.bl (decide (cb.2 ∈ F1.map (·.1)))))) a (.dK (rowD r)) = H5 at S5 ⊢
              have he5 := S5 _ _ he3
              have ha5 := S5 _ _ ha4
              have hd5 := S5 _ _ hd4
              by_cases hall : (r.all fun cb => decide (cb.2 ∈ F1.map (·.1))) = true
              · rw [hall]
                have hin2 : ∀ cb ∈ r, cb.2 ∈ F1.map (·.1) := fun cb hm => of_decide_eq_true (List.all_eq_true.mp hall cb hm)
                refine iteT ?_
                refine ⟨a, .dK (rowD r), ha5, True.intro, fun od3 => ?_⟩
                refine ⟨_, rfl, _, rfl, d, .ref a, rfl, dget_some (.inr ⟨od, by rw [upd_ne nad.symm]; exact hd5⟩) haa, a, od3, _, rfl, upd_same, fun D2 nD2 => ?_⟩
                have naD2 : a ≠ D2 := ne_of_none upd_same nD2
                have neD2 : e ≠ D2 := ne_of_none (show (upd H5 a (.frz od3 (.dK (rowD r)))) e = _ by rw [upd_ne nea]; exact he5) nD2
                refine lc_row r (fun cb => .int ((aget F1 cb.2).getD 0 + 1)) upd_same nD2 (by omega) (fun j cb ej acc hz => ?_) ?_
                · obtain ⟨v, hv⟩ := FT.aget_isSome.mpr (hin2 cb (List.mem_of_getElem? ej))
                  refine ⟨rfl, _, rfl, _, rfl, e, .int v, rfl, dget_some (f := V.int) (.inl (by rw [upd_ne neD2, upd_ne nea]; exact he5)) hv, v, 1, rfl, rfl, lc_end hz ?_⟩
                  rw [hv]; rfl
                · have S6 : Same H5 (upd (upd (upd H5 a (.frz od3 (.dK (rowD r)))) D2 (.lst (r.map fun cb => V.int ((aget F1 cb.2).getD 0 + 1)))) a (.dK (rowD r))) := Same.unlock ha5 (Same.upd nD2)
                  have fin : ∀ v, FT.IsMax v (FT.hrow F1 r) → ∀ H6, Same H5 H6 → (∃ F' gb' x3, [some (V.ref d), some (.ref e), some (.bl true), some (tx f1), none] = [some (V.ref d), some (.ref e), some (.bl gb'), x3, none] ∧
                      Same (upd H d (.frz od (.dK (dk V.ref as)))) (upd H6 e (.dK (dk V.int (aput F1 f1 v)))) ∧ (upd H6 e (.dK (dk V.int (aput F1 f1 v)))) e = some (.dK (dk V.int F')) ∧ FT.HPart g F' ∧
                      (gb' = false → F' = F0 ∧ ∀ f ∈ (g.take (i + 1)).map (·.1), f ∉ F0.map (·.1) → ∃ c b, (c, b) ∈ FT.rowOf g f ∧ b ∉ F0.map (·.1)) ∧ (gb' = true → F0.length < F'.length)) := fun v hv H6 S6 => by
                    rw [FT.aput_new hin]
                    refine ⟨_, true, _, rfl, Same.new ((S3.trans S5).trans S6) neB, upd_same, hp3.add hfg hin (fun c b hb => ?_) (by rw [rw1]; exact hv), fun z => (nomatch z), fun _ => ?_⟩
                    · rw [rw1] at hb
                      exact hin2 (c, b) hb
                    · rw [List.length_append, List.length_singleton]
                      cases gb1 with
                      | false => rw [(c0 rfl).1]; omega
                      | true => have := c1 rfl; omega
                  refine ⟨D2, FT.hrow F1 r, rfl, rfl, SqL.of (by rw [upd_same]; unfold FT.hrow; rw [List.map_map]; rfl), fun hz => ⟨by rw [upd_ne naD2, upd_same], _, rfl, _, rfl, e, _, rfl, dput_dk (f := V.int) (v := 0) (S6 _ _ he5) (by omega) f1, fin 0 (.inl ⟨hz, rfl⟩) _ S6⟩, fun m hm hle => ?_⟩
                  exact ⟨by rw [upd_ne naD2, upd_same], _, rfl, _, rfl, e, _, rfl, dput_dk (f := V.int) (v := m) (S6 _ _ he5) (by omega) f1, fin m (.inr ⟨hm, hle⟩) _ S6⟩
              · have hall' : (r.all fun cb => decide (cb.2 ∈ F1.map (·.1))) = false := by simpa using hall
                rw [hall']
                refine iteF ⟨F1, gb1, _, rfl, S3.trans S5, he5, hp3, fun z => ⟨(c0 z).1, fun f hf hn => ?_⟩, c1⟩
                rw [tk] at hf
                rcases List.mem_append.mp hf with hf | hf
                · exact (c0 z).2 f hf hn
                · rw [List.mem_singleton.mp hf]
                  obtain ⟨cb, h1, h2⟩ := List.all_eq_false.mp hall'
                  exact ⟨cb.1, cb.2, by rw [rw1]; exact h1, by rw [← (c0 z).1]; simpa using h2⟩
        · rintro σ H3 ⟨F1, gb1, x3', rfl, S3, he3, hp3, c0, c1⟩
          have F1len : F1.length ≤ g.length := by have := FT.nodup_len hp3.nd hp3.sub; simpa using this
          refine ⟨S3 _ _ upd_same, (F1, gb1), ⟨_, rfl, Same.unlock hd S3, by rw [upd_ne ned]; exact he3, hp3, fun z => ?_⟩, ?_⟩
          · obtain ⟨q1, q2⟩ := c0 z
            subst q1
            rw [List.take_length] at q2
            exact ⟨hp3, fun f hf hn => q2 f hf hn⟩
          · show (if gb1 = true then g.length + 1 - F1.length else 0) < (if true = true then g.length + 1 - F0.length else 0)
            rw [if_pos rfl]
            split
            · rename_i z
              have := c1 z
              omega
            · omega
    · rintro σ H1 Q1 Q2 h ⟨v, h1, c, h2, q⟩
      exact ⟨v, h1, c, h2, h _ _ q⟩
end
end FTW
end
section
set_option Elab.async false
set_option linter.all false
set_option maxRecDepth 100000
set_option maxHeartbeats 4000000
/-! what is enough, the longest free text -/
namespace FTW
open PySem PySem.Spec PyProof.Rows L2 FTR
open FT (Tx Gr aget aput)
abbrev sEnough : Stmt := top 27
abbrev sCheckE : Stmt := top 28
abbrev sLongest : Stmt := top 30
theorem scEnough : FnScope ["book", "steps"] ["book"] (defScope sEnough) := ⟨rfl, rfl, rfl, by decide +kernel, rfl, by decide +kernel, by decide +kernel⟩
theorem scCheckE : FnScope ["book"] ["book"] (defScope sCheckE) := ⟨rfl, rfl, rfl, by decide +kernel, rfl, by decide +kernel, by decide +kernel⟩
theorem scLongest : FnScope ["book"] ["book"] (defScope sLongest) := ⟨rfl, rfl, rfl, by decide +kernel, rfl, by decide +kernel, by decide +kernel⟩
/-- no text of so many letters is free -/
def Ends_ (g : Gr) : Prop := ¬ 0 < FT.total (FT.cnt g (g.length + 1))
instance (g : Gr) : Decidable (Ends_ g) := by unfold Ends_; infer_instance
def spEnough (K : PySem.W.Frag) (C : Addr) : Sp := fun vs H Q _ => ∃ b P, vs = [.ref b] ∧ BookAt K C H b P ∧ Pcs P ∧ ∀ g H', FT.IsG P (ownOf P) g → Same H H' → Q (.bl (decide (Ends_ g))) H'
def spCheckE (K : PySem.W.Frag) (C N : Addr) : Sp := fun vs H Q E => ∃ b P, vs = [.ref b] ∧ BookAt K C H b P ∧ Pcs P ∧ ∀ g H', FT.IsG P (ownOf P) g → Same H H' → (Ends_ g → Q .non H') ∧ (¬ Ends_ g → E (.ref N) none H')
def spLongest (K : PySem.W.Frag) (C N : Addr) : Sp := fun vs H Q E => ∃ b P, vs = [.ref b] ∧ BookAt K C H b P ∧ Pcs P ∧ ∀ g H', FT.IsG P (ownOf P) g → Same H H' →
  (Ends_ g → ∀ h : Int, 0 ≤ h → h ≤ g.length → (∀ k : Nat, FT.total (FT.cnt g k) = 0 ↔ h < (k : Int)) → Q (.int h) H') ∧ (¬ Ends_ g → E (.ref N) none H')
theorem g_few {P : List Tx} {own : List Nat} {g : Gr} (pc : Pcs P) (h : FT.IsG P own g) : g.length ≤ 97 := Nat.le_trans h.whole.len (fronts_few pc)
section
variable {P : Program} {w : World} {K : PySem.W.Frag} {mg : Str → Option Value} {base : Heap}
theorem ok_enough {f C : Addr} {fd : FuncData} (F : Fun K "is_enough" "is_enough" sEnough f fd) (T : Bt mg) (hN : Has P w K mg base CX0 2 sNext "next_fronts" ["book"] (spNext K C)) (hH : Has P w K mg base CX0 1 sHts "heights" ["steps"] spHts) :
    FnOk P w K mg base CX0 3 f fd ["book"] (spEnough K C) := by
  obtain ⟨fN, fdN, DN, GN⟩ := hN
  obtain ⟨fH, fdH, DH, GH⟩ := hH
  refine F.ok scEnough (fun vs H Q E h => ?_) (fun cdv A outer s H vs Q E hr h => ?_)
  · obtain ⟨_, _, rfl, _⟩ := h
    rfl
  · obtain ⟨b, L, rfl, hb, pc, k⟩ := h
    refine ⟨_, pss_cons (ps_set (i := 1) scEnough.nd rfl (Or.inl rfl) (pe_call GN hr rfl DN.g DN.F.kp DN.b .nil pass0 (pa_cons (pv 0) pa_nil)))
      (pss_one (ps_ret (pe_cmpR op_eq (pe_callB call_lenD (by rfl) T.len PySem.boot_len (pa_cons (pe_call GH (hr.mono (by decide)) rfl DH.g DH.F.kp DH.b .nil pass0 (pa_cons (pv 1) pa_nil)) pa_nil))
        (pe_callB call_lenD (by rfl) T.len PySem.boot_len (pa_cons (pv 1) pa_nil)) (nomark _)))), ?_⟩
    refine ⟨_, rfl, b, L, rfl, hb, pc, fun d g H1 hg S1 hs nd => ?_⟩
    have gf := g_few pc hg
    refine ⟨_, rfl, d, g, L, ownOf L, rfl, hs, hg.whole, by omega, (own_ownOf pc).len pc, fun e F0 H2 hF S2 ne he => ?_⟩
    obtain ⟨as, hd, hrow⟩ := hs.same S2
    refine ⟨e, _, rfl, he, _, rfl, d, _, rfl, hd, rfl, ?_⟩
    rw [dk_len, dk_len, hrow.len]
    refine blE (Q := Q) (decide_eq_decide.mpr ⟨fun z => ?_, fun z => ?_⟩) (k g H2 hg (S1.trans S2))
    · have e1 := V.int.inj z
      exact (hF.count_iff hg.whole).mp (by omega)
    · have e1 := (hF.count_iff hg.whole).mpr z
      rw [e1]
theorem ok_checkE {f C N : Addr} {fd : FuncData} (F : Fun K "check_enough" "check_enough" sCheckE f fd) (X0 : Ex0 K mg "NotEnough" N) (hE : Has P w K mg base CX0 3 sEnough "is_enough" ["book"] (spEnough K C)) :
    FnOk P w K mg base (L2.CX P w) 4 f fd ["book"] (spCheckE K C N) := by
  obtain ⟨fE, fdE, DE, GE⟩ := hE
  refine F.okX scCheckE (fun vs H Q E h => ?_) (fun cdv A outer s H vs Q E hr h => ?_)
  · obtain ⟨_, _, rfl, _⟩ := h
    rfl
  · obtain ⟨b, L, rfl, hb, pc, k⟩ := h
    refine ⟨_, pss_one (ps_if (pt_not (pt_val (pe_call GE hr rfl DE.g DE.F.kp DE.b .nil pass0 (pa_cons (pv 0) pa_nil))))
      (pss_one (ps_raise rfl (takes_of rfl rfl rfl rfl) (pmk_own0 PySem.F.excBase_ValueError X0.x X0.g X0.k (raises_own X0.b X0.t) rfl))) pss_nil), ?_⟩
    refine ⟨_, rfl, b, L, rfl, hb, pc, fun g H1 hg S1 => ⟨_, rfl, ?_⟩⟩
    by_cases c : Ends_ g
    · rw [decide_eq_true c]
      exact iteF ((k g H1 hg S1).1 c)
    · rw [decide_eq_false c]
      exact iteT ((k g H1 hg S1).2 c)
theorem ok_longest {f C N : Addr} {fd : FuncData} (F : Fun K "longest_free" "longest_free" sLongest f fd) (hC : Has P w K mg base (L2.CX P w) 4 sCheckE "check_enough" ["book"] (spCheckE K C N))
    (hN : Has P w K mg base CX0 2 sNext "next_fronts" ["book"] (spNext K C)) (hH : Has P w K mg base CX0 1 sHts "heights" ["steps"] spHts) :
    FnOk P w K mg base (L2.CX P w) 5 f fd ["book"] (spLongest K C N) := by
  obtain ⟨fN, fdN, DN, GN⟩ := hN
  obtain ⟨fH, fdH, DH, GH⟩ := hH
  obtain ⟨fC, fdC, DC, GC⟩ := hC
  refine F.okX scLongest (fun vs H Q E h => ?_) (fun cdv A outer s H vs Q E hr h => ?_)
  · obtain ⟨_, _, rfl, _⟩ := h
    rfl
  · obtain ⟨b, L, rfl, hb, pc, k⟩ := h
    refine ⟨_, pss_cons (ps_expr (pe_call GC hr rfl DC.g DC.F.kp DC.b .nil (passes_call (takes_of rfl rfl rfl rfl) (fun cls d σ H (q : E cls d H) => q)) (pa_cons (pv 0) pa_nil)))
      (pss_one (ps_ret (pe_dget (hu_of hr) (pe_call GH (hr.mono (by decide)) rfl DH.g DH.F.kp DH.b .nil pass0 (pa_cons (pe_call GN (hr.mono (by decide)) rfl DN.g DN.F.kp DN.b .nil pass0 (pa_cons (pv 0) pa_nil)) pa_nil)) pe_str (fun _ _ => rfl)))), ?_⟩
    refine ⟨_, rfl, b, L, rfl, hb, pc, fun g H1 hg S1 => ⟨fun c => ?_, fun c => (k g H1 hg S1).2 c⟩⟩
    refine ⟨_, rfl, b, L, rfl, hb.same S1, pc, fun d g' H2 hg' S2 hs nd => ?_⟩
    obtain rfl := hg.one hg'
    have gf := g_few pc hg
    refine ⟨d, g, L, ownOf L, rfl, hs, hg.whole, by omega, (own_ownOf pc).len pc, fun e F0 H3 hF S3 ne he => ?_⟩
    obtain ⟨h, h0, h1, h2, h3⟩ := hF.top hg.whole ((hF.count_iff hg.whole).mpr c)
    refine ⟨e, .int h, rfl, ?_, (k g H3 hg ((S1.trans S2).trans S3)).1 c h h1 h2 h3⟩
    rw [nil_S]
    exact dget_some (f := V.int) (.inl he) h0
end
end FTW
end
section
set_option autoImplicit false
namespace FT
/-- a dict over fronts: no key twice, all of them fronts that are come to -/
def KIn {β : Type} (g : Gr) (l : List (Tx × β)) : Prop := (l.map (·.1)).Nodup ∧ ∀ k ∈ l.map (·.1), k ∈ g.map (·.1)
theorem KIn.nil {β : Type} (g : Gr) : KIn g ([] : List (Tx × β)) := ⟨List.nodup_nil, fun _ h => (nomatch h)⟩
theorem KIn.len {β : Type} {g : Gr} {l : List (Tx × β)} (h : KIn g l) : l.length ≤ g.length := by
  have := nodup_len h.1 h.2
  simpa using this
theorem aput_old_keys {β : Type} {l : List (Tx × β)} {k : Tx} {v : β} (h : k ∈ l.map (·.1)) : (aput l k v).map (·.1) = l.map (·.1) := by
  unfold aput
  rw [if_pos (any_iff.mpr h), List.map_map]
  refine List.map_congr_left fun p _ => ?_
  simp only [Function.comp]
  split <;> rfl
theorem KIn.put {β : Type} {g : Gr} {l : List (Tx × β)} (h : KIn g l) {k : Tx} {v : β} (hk : k ∈ g.map (·.1)) : KIn g (aput l k v) := by
  by_cases c : k ∈ l.map (·.1)
  · unfold KIn
    rw [aput_old_keys c]
    exact h
  · rw [aput_new c]
    refine ⟨?_, fun j hj => ?_⟩
    · rw [List.map_append, List.nodup_append]
      refine ⟨h.1, by simp, fun a ha b hb e => ?_⟩
      rw [List.map_singleton, List.mem_singleton] at hb
      subst hb; subst e; exact c ha
    · rw [List.map_append] at hj
      rcases List.mem_append.mp hj with hj | hj
      · exact h.2 j hj
      · rw [List.map_singleton, List.mem_singleton] at hj
        rw [hj]; exact hk
theorem KIn.crow {g : Gr} {n : Int} : ∀ {r : List (Nat × Tx)} {l : List (Tx × Int)}, KIn g l → (∀ c b, (c, b) ∈ r → b ∈ g.map (·.1)) → KIn g (crow n l r)
  | [], _, h, _ => h
  | cb :: r, l, h, hr => KIn.crow (r := r) (h.put (hr cb.1 cb.2 List.mem_cons_self)) fun c b hm => hr c b (List.mem_cons_of_mem _ hm)
/-- one step, so far -/
def cpart (g : Gr) (ways : List (Tx × Int)) (j : Nat) : List (Tx × Int) := (ways.take j).foldl (fun a fn => crow fn.2 a (rowOf g fn.1)) []
theorem cpart_succ {g : Gr} {ways : List (Tx × Int)} {j : Nat} {f : Tx} {n : Int} (h : ways[j]? = some (f, n)) : cpart g ways (j + 1) = crow n (cpart g ways j) (rowOf g f) := by
  unfold cpart
  rw [List.take_add_one, h, List.foldl_append]
  rfl
theorem cpart_all (g : Gr) (ways : List (Tx × Int)) : cpart g ways ways.length = cstep g ways := by
  unfold cpart cstep
  rw [List.take_length]
theorem crow_succ {n : Int} {l : List (Tx × Int)} {r : List (Nat × Tx)} {m : Nat} {c : Nat} {b : Tx} (h : r[m]? = some (c, b)) : crow n l (r.take (m + 1)) = bump (crow n l (r.take m)) b n := by
  unfold crow
  rw [List.take_add_one, h, List.foldl_append]
  rfl
section
variable {P : List Tx} {own : List Nat} {g : Gr}
theorem Whole.into (W : Whole P own g) {f : Tx} {c : Nat} {b : Tx} (h : (c, b) ∈ rowOf g f) : b ∈ g.map (·.1) := by
  by_cases hf : f ∈ g.map (·.1)
  · rw [W.row' hf] at h
    exact W.cls f hf c b h
  · unfold rowOf at h
    rw [aget_none.mpr hf] at h
    cases h
theorem KIn.part (W : Whole P own g) (ways : List (Tx × Int)) : ∀ j, KIn g (cpart g ways j)
  | 0 => .nil g
  | j + 1 => by
    cases h : ways[j]? with
    | none =>
      have : cpart g ways (j + 1) = cpart g ways j := by unfold cpart; rw [List.take_add_one, h]; simp
      rw [this]
      exact KIn.part W ways j
    | some p =>
      rw [cpart_succ (f := p.1) (n := p.2) h]
      exact (KIn.part W ways j).crow fun c b hm => W.into hm
theorem KIn.cnt (W : Whole P own g) : ∀ k, KIn g (cnt g k)
  | 0 => ⟨by simp [FT.cnt, Nat.repeat], fun k hk => by
      have : k = [] := by simpa [FT.cnt, Nat.repeat] using hk
      rw [this]; exact W.frs⟩
  | k + 1 => by
    show KIn g (cstep g (FT.cnt g k))
    rw [← cpart_all]
    exact KIn.part W _ _
end
end FT
end
section
set_option Elab.async false
set_option linter.all false
set_option maxRecDepth 100000
set_option maxHeartbeats 4000000
/-! free_count -/
namespace FTW
open PySem PySem.Spec PyProof.Rows L2 FTR
open FT (Tx Gr aget aput)
abbrev sCount : Stmt := top 31
theorem scCount : FnScope ["book", "many", "steps", "counts", "turn", "later", "front", "behind"] ["book", "many"] (defScope sCount) := ⟨rfl, rfl, rfl, by decide +kernel, rfl, by decide +kernel, by decide +kernel⟩
def spCount (K : PySem.W.Frag) (C N : Addr) : Sp := fun vs H Q E => ∃ b P x, vs = [.ref b, x] ∧ BookAt K C H b P ∧ Pcs P ∧
  ((∃ n : Nat, x = .int (n : Int) ∧ n ≤ 1000 ∧ ∀ g H', FT.IsG P (ownOf P) g → Same H H' → Q (.int (FT.total (FT.cnt g n))) H') ∨ ((NotInt K H x ∨ ∃ n, x = .int n ∧ ¬ (0 ≤ n ∧ n ≤ 1000)) ∧ E (.ref N) none H))
section
variable {P : Program} {w : World} {K : PySem.W.Frag} {mg : Str → Option Value} {base : Heap}
theorem ok_count {f C N : Addr} {fd : FuncData} (F : Fun K "free_count" "free_count" sCount f fd) (T : Bt mg) {t : Tok} (gM : mg "MOST_SIGNS" = some (.int 1000 t))
    (hC : Has P w K mg base (L2.CX P w) 3 sCheckN "check_number" ["thing", "least", "most"] (spCheckN K N)) (hN : Has P w K mg base CX0 2 sNext "next_fronts" ["book"] (spNext K C)) :
    FnOk P w K mg base (L2.CX P w) 4 f fd ["book", "many"] (spCount K C N) := by
  obtain ⟨fN, fdN, DN, GN⟩ := hN
  obtain ⟨fC, fdC, DC, GC⟩ := hC
  refine F.okX scCount (fun vs H Q E h => ?_) (fun cdv A outer s H vs Q E hr h => ?_)
  · obtain ⟨_, _, _, rfl, _⟩ := h
    rfl
  · obtain ⟨b, L, x, rfl, hb, pc, h⟩ := h
    have hu := hu_of hr
    refine ⟨_, pss_cons (ps_expr (pe_call GC hr rfl DC.g DC.F.kp DC.b .nil (passes_call (takes_of rfl rfl rfl rfl) (fun cls d σ H (q : E cls d H) => q)) (pa_cons (pv 1) (pa_cons pe_int (pa_cons (pe_glob (v := .int 1000) rfl gM ⟨_, rfl⟩) pa_nil)))))
      (pss_cons (ps_set (i := 2) scCount.nd rfl (Or.inl rfl) (pe_call GN (hr.mono (by decide)) rfl DN.g DN.F.kp DN.b .nil pass0 (pa_cons (pv 0) pa_nil)))
      (pss_cons (ps_set (i := 3) scCount.nd rfl (Or.inl rfl) (pe_disp (pps_cons pe_str pe_int pps_nil) rfl rfl (fun z => nomatch z) (by decide)))
      (pss_cons (ps_for (passes_of rfl) rfl (pi_range1 rfl T.rng (pa_cons (pv 1) pa_nil)) (pg_name (i := 4) scCount.nd rfl (Or.inl rfl))
        (pss_cons (ps_set (i := 5) scCount.nd rfl (Or.inl rfl) pe_dnewK)
        (pss_cons (ps_lock (ps_for (passes_of rfl) rfl (pi_keys (pv 3)) (pg_name (i := 6) scCount.nd rfl (Or.inl rfl))
          (pss_one (ps_lock (ps_for (passes_of rfl) rfl (pi_values (pe_dget hu (pv 2) (pv 6) (fun _ _ => rfl))) (pg_name (i := 7) scCount.nd rfl (Or.inl rfl))
            (pss_one (ps_dput hu (pv 5) (pv 7) (pe_op op_add (pe_dget2 hu (pv 5) (pv 7) pe_int ⟨rfl, rfl, rfl, rfl⟩) (pe_dget hu (pv 3) (pv 6) (fun _ _ => rfl))) rfl)))))))
        (pss_one (ps_set (i := 3) scCount.nd rfl (Or.inl rfl) (pv 5))))))
      (pss_one (ps_ret (pe_sumVals rfl rfl T.sum (pv 3))))))), ?_⟩
    rcases h with ⟨n, rfl, hn, k⟩ | ⟨c, k⟩
    · refine ⟨_, rfl, _, 0, 1000, rfl, .inl ⟨n, rfl, by omega, by omega, ?_⟩⟩
      refine ⟨_, rfl, b, L, rfl, hb, pc, fun d g H1 hg S1 hs nd0 => ?_⟩
      have W := hg.whole
      have gf := g_few pc hg
      obtain ⟨as, hd1, hrow1⟩ := hs
      intro c nc
      have nc0 : H c = none := S1.free nc
      refine ⟨upd_same, [(kx [], .int 1)], by rw [nil_S]; rfl, by decide, ?_⟩
      refine ⟨_, rfl, _, rfl, by omega, by omega, for_range (lo := 0) (n := n) (fun i σ H' => ∃ c x4 x5 x6 x7, σ = [some (.ref b), some (.int n), some (.ref d), some (.ref c), x4, x5, x6, x7] ∧ Same H1 H' ∧ H' c = some (.dK (dk V.int (FT.cnt g i))))
        ⟨c, _, _, _, _, rfl, Same.new (Same.upd nc) nc, by rw [upd_same]; rfl⟩ ?_ ?_⟩
      · rintro i σ H2 hi ⟨c, x4, x5, x6, x7, rfl, S2, hc2⟩
        have hd2 := S2 _ _ hd1
        have hrow2 : Rows H2 d g as := hrow1.same fun p _ o e => S2 _ _ e
        have kin := FT.KIn.cnt W i
        intro l nl
        have nlc : c ≠ l := ne_of_none hc2 nl
        have nld : d ≠ l := ne_of_none hd2 nl
        refine ⟨c, .dK (dk V.int (FT.cnt g i)), by rw [upd_ne nlc]; exact hc2, True.intro, fun od => ?_⟩
        refine ⟨_, rfl, c, od, rfl, .inl ⟨_, upd_same, for_walk (FT.cnt g i).length (fun j σ H' => ∃ x6 x7, σ = [some (.ref b), some (.int n), some (.ref d), some (.ref c), some (.int (0 + (i : Nat))), some (.ref l), x6, x7] ∧ Same (upd H2 c (.frz od (.dK (dk V.int (FT.cnt g i))))) H' ∧
            H' l = some (.dK (dk V.int (FT.cpart g (FT.cnt g i) j))))
          ⟨_, _, rfl, Same.lock (Same.upd nl), by rw [upd_ne nlc.symm, upd_same]; rfl⟩ (fun j σ H' hj q => ?_) (fun σ H' q => ?_) ?_ ?_⟩⟩
        · obtain ⟨_, _, _, S3, _⟩ := q
          exact ⟨S3 _ _ upd_same, by rw [dk_len]; exact hj⟩
        · obtain ⟨_, _, _, S3, _⟩ := q
          exact ⟨S3 _ _ upd_same, by rw [dk_len]; exact Nat.le_refl _⟩
        · rintro j y σ H3 H4 hj ⟨y6, y7, rfl, S3, hl3⟩ ⟨rfl, kk, vv, hy, rfl⟩
          obtain ⟨f1, v1, hy2, rfl, rfl⟩ := dk_get hy
          have hmem := List.mem_of_getElem? hy2
          have hfg : f1 ∈ g.map (·.1) := kin.2 f1 (List.mem_map_of_mem (f := (·.1)) hmem)
          have hag := W.get hfg
          have rw1 : FT.rowOf g f1 = FT.succs L (ownOf L) f1 := W.row' hfg
          have rl : (FT.succs L (ownOf L) f1).length ≤ 8 := Nat.le_trans (FT.succs_len f1) ((own_ownOf pc).len pc)
          have ncd : c ≠ d := fun z => by
            subst z
            rw [hd2] at hc2
            have := HO.dK.inj (Option.some.inj hc2)
            have e2 := hy
            rw [← this] at e2
            obtain ⟨_, _, _, _, e3⟩ := dk_get e2
            cases e3
          obtain ⟨a, haa, nad, ha2⟩ := hrow2.get hag
          generalize hrr : FT.succs L (ownOf L) f1 = r at hag rw1 rl ha2
          have nca : c ≠ a := fun z => by
            subst z
            rw [ha2] at hc2
            have := HO.dK.inj (Option.some.inj hc2)
            have e2 := hy
            rw [← this] at e2
            obtain ⟨_, _, _, _, e3⟩ := dk_get (f := tx) e2
            cases e3
          have nal : a ≠ l := ne_of_none ha2 nl
          have ha4 := S3 _ _ (show (upd H2 c (.frz od (.dK (dk V.int (FT.cnt g i))))) a = _ by rw [upd_ne nca.symm]; exact ha2)
          have hd4 := S3 _ _ (show (upd H2 c (.frz od (.dK (dk V.int (FT.cnt g i))))) d = _ by rw [upd_ne ncd.symm]; exact hd2)
          have hc4 := S3 _ _ (show (upd H2 c (.frz od (.dK (dk V.int (FT.cnt g i))))) c = _ from upd_same)
          have lB : (upd H2 c (.frz od (.dK (dk V.int (FT.cnt g i))))) l = none := by rw [upd_ne nlc.symm]; exact nl
          refine ⟨a, .dK (rowD r), ha4, True.intro, fun od2 => ?_⟩
          refine ⟨_, rfl, _, rfl, d, .ref a, rfl, dget_some (.inl (by rw [upd_ne nad.symm]; exact hd4)) haa, a, od2, _, rfl, upd_same, for_walk r.length (fun m σ H' => ∃ x7, σ = [some (.ref b), some (.int n), some (.ref d), some (.ref c), some (.int (0 + (i : Nat))), some (.ref l), some (tx f1), x7] ∧
              Same (upd (upd H2 c (.frz od (.dK (dk V.int (FT.cnt g i))))) a (.frz od2 (.dK (rowD r)))) H' ∧ H' l = some (.dK (dk V.int (FT.crow v1 (FT.cpart g (FT.cnt g i) j) (r.take m)))))
            ⟨_, rfl, Same.lock S3, by rw [upd_ne nal.symm]; exact hl3⟩ (fun m σ H' hm q => ?_) (fun σ H' q => ?_) ?_ ?_⟩
          · obtain ⟨_, _, S5, _⟩ := q
            exact ⟨S5 _ _ upd_same, by simp only [rowD, dk, List.length_map]; exact hm⟩
          · obtain ⟨_, _, S5, _⟩ := q
            exact ⟨S5 _ _ upd_same, by simp [rowD, dk]⟩
          · rintro m z σ H5 H6 hm ⟨x7, rfl, S5, hl5⟩ ⟨rfl, kz, hz⟩
            have er := List.getElem?_eq_getElem hm
            have : z = tx r[m].2 := by
              unfold rowD dk at hz
              rw [List.getElem?_map, List.getElem?_map, er] at hz
              cases hz
              rfl
            subst this
            have hcb : r[m].2 ∈ g.map (·.1) := W.into (f := f1) (c := r[m].1) (by rw [rw1]; exact List.getElem_mem hm)
            have kin2 : FT.KIn g (FT.crow v1 (FT.cpart g (FT.cnt g i) j) (r.take m)) := (FT.KIn.part W _ j).crow fun c' b' hm' => W.into (f := f1) (c := c') (by rw [rw1]; exact List.mem_of_mem_take hm')
            have hc6 := S5 _ _ (show (upd (upd H2 c (.frz od (.dK (dk V.int (FT.cnt g i))))) a (.frz od2 (.dK (rowD r)))) c = _ by rw [upd_ne nca, upd_same])
            have nlen := kin2.len
            refine ⟨_, rfl, l, rfl, .inl ⟨_, .inl hl5⟩, _, rfl, _, dget_dk (f := V.int) (.inl hl5) r[m].2, _, rfl, _, rfl, c, .int v1, rfl, dget_some (f := V.int) (.inr ⟨od, hc6⟩) (FT.aget_mem kin.1 hmem), ?_⟩
            refine ⟨(aget (FT.crow v1 (FT.cpart g (FT.cnt g i) j) (r.take m)) r[m].2).getD 0, v1, ?_, rfl, ?_⟩
            · cases aget (FT.crow v1 (FT.cpart g (FT.cnt g i) j) (r.take m)) r[m].2 <;> rfl
            · refine ⟨_, rfl, _, rfl, l, _, rfl, dput_dk (f := V.int) (v := (aget (FT.crow v1 (FT.cpart g (FT.cnt g i) j) (r.take m)) r[m].2).getD 0 + v1) hl5 (by omega) r[m].2, _, rfl, Same.new S5 (by rw [upd_ne nal.symm]; exact lB), ?_⟩
              rw [upd_same, FT.crow_succ (c := r[m].1) (b := r[m].2) er]
              rfl
          · rintro σ H5 ⟨x7, rfl, S5, hl5⟩
            refine ⟨S5 _ _ upd_same, _, _, rfl, Same.unlock (show (upd H2 c (.frz od (.dK (dk V.int (FT.cnt g i))))) a = _ by rw [upd_ne nca.symm]; exact ha2) S5, ?_⟩
            rw [upd_ne nal.symm, hl5, List.take_length, FT.cpart_succ hy2, rw1]
        · rintro σ H3 ⟨x6', x7', rfl, S3, hl3⟩
          refine ⟨S3 _ _ upd_same, _, rfl, l, _, _, _, _, rfl, S2.trans (Same.unlock hc2 S3), ?_⟩
          rw [upd_ne nlc.symm, hl3, FT.cpart_all]
          rfl
      · rintro σ H2 ⟨c, x4, x5, x6, x7, rfl, S2, hc2⟩
        refine ⟨_, rfl, c, _, (FT.cnt g n).map (·.2), rfl, hc2, ?_, ?_⟩
        · unfold dk
          rw [List.map_map, List.map_map]
          rfl
        · exact k g H2 hg (S1.trans S2)
    · exact ⟨_, rfl, x, 0, 1000, rfl, .inr ⟨c, k⟩⟩
end
end FTW
end
section
set_option Elab.async false
set_option linter.all false
set_option maxRecDepth 100000
set_option maxHeartbeats 4000000
/-! endless -/
namespace FTW
open PySem PySem.Spec PyProof.Rows L2 FTR
open FT (Tx Gr aget aput)
abbrev sEndless : Stmt := top 32
theorem scEndless : FnScope ["book", "steps", "ends", "front", "text", "places", "letter", "one"] ["book"] (defScope sEndless) := ⟨rfl, rfl, rfl, by decide +kernel, rfl, by decide +kernel, by decide +kernel⟩
def spEndless (K : PySem.W.Frag) (C : Addr) : Sp := fun vs H Q _ => ∃ b P, vs = [.ref b] ∧ BookAt K C H b P ∧ Pcs P ∧ ∀ g H', FT.IsG P (ownOf P) g → Same H H' →
  (Ends_ g → Q .non H') ∧ (¬ Ends_ g → ∀ u r t, Ever P u r → H' t = some (.tup [tx u, tx r]) → H t = none → Q (.ref t) H')
/-- where one stands: the text so far, the front, the places of fronts -/
structure Way (P : List Tx) (g : Gr) (F : List (Tx × Int)) (u f : Tx) (pl : List (Tx × Int)) : Prop where
  run : FT.Run P (ownOf P) u f
  out : f ∉ F.map (·.1)
  kin : FT.KIn g pl
  len : u.length = pl.length
  at_ : ∀ k v, (k, v) ∈ pl → ∃ i : Nat, v = (i : Int) ∧ i < u.length ∧ FT.Run P (ownOf P) (u.take i) k
theorem Way.ever {P : List Tx} {g : Gr} {F : List (Tx × Int)} {u f : Tx} {pl : List (Tx × Int)} (pc : Pcs P) (gf : g.length ≤ 97) (w : Way P g F u f pl) {i : Nat} (hi : i < u.length) (h : FT.Run P (ownOf P) (u.take i) f) : Ever P (u.take i) (u.drop i) := by
  have kn := w.run.known pc.ne
  have ul : u.length ≤ 97 := by have := w.kin.len; have := w.len; omega
  have oo := own_ownOf pc
  refine ⟨fun z => ?_, by rw [List.length_take]; omega, by rw [List.length_drop]; omega, fun c hc => (oo.2 c).mp (kn.let_ c (List.mem_of_mem_take hc)), fun c hc => (oo.2 c).mp (kn.let_ c (List.mem_of_mem_drop hc)), fun k p hp => ?_⟩
  · have := congrArg List.length z
    rw [List.length_drop, List.length_nil] at this
    omega
  · have r2 : FT.Run P (ownOf P) (u.take i ++ u.drop i) f := by rw [List.take_append_drop]; exact w.run
    have := ((FT.Run.round pc.ne h r2 k).known pc.ne).fre p hp
    rw [times_flat] at this
    exact this
theorem Way.step {P : List Tx} {g : Gr} {F : List (Tx × Int)} {u f b : Tx} {pl : List (Tx × Int)} {c : Nat} (W : FT.Whole P (ownOf P) g) (w : Way P g F u f pl) (hf : f ∉ pl.map (·.1)) (hs : (c, b) ∈ FT.succs P (ownOf P) f) (hb : b ∉ F.map (·.1)) :
    Way P g F (u ++ [c]) b (pl ++ [(f, (u.length : Int))]) := by
  refine ⟨.snoc w.run hs, hb, ?_, by simp [w.len], fun k v hm => ?_⟩
  · have := w.kin.put (v := (u.length : Int)) (W.run w.run)
    rw [FT.aput_new hf] at this
    exact this
  · rcases List.mem_append.mp hm with hm | hm
    · obtain ⟨i, e, hi, hr⟩ := w.at_ k v hm
      exact ⟨i, e, by simp; omega, by rw [List.take_append_of_le_length (by omega)]; exact hr⟩
    · cases List.mem_singleton.mp hm
      exact ⟨u.length, rfl, by simp, by rw [List.take_left]; exact w.run⟩
theorem succs_nodup {P : List Tx} {own : List Nat} {f : Tx} (nd : own.Nodup) : ((FT.succs P own f).map (·.1)).Nodup := by
  have sub : ((FT.succs P own f).map (·.1)).Sublist own := by
    unfold FT.succs
    induction own with
    | nil => exact .slnil
    | cons c own ih =>
      rw [List.nodup_cons] at nd
      rw [List.filterMap_cons]
      split
      · exact (ih nd.2).cons _
      · rename_i b e
        split at e
        · cases e
        · cases e
          exact (ih nd.2).cons₂ _
  exact nd.sublist sub
section
variable {P : Program} {w : World} {K : PySem.W.Frag} {mg : Str → Option Value} {base : Heap}
theorem ok_endless {f C : Addr} {fd : FuncData} (F : Fun K "endless" "endless" sEndless f fd) (T : Bt mg) (hN : Has P w K mg base CX0 2 sNext "next_fronts" ["book"] (spNext K C)) (hH : Has P w K mg base CX0 1 sHts "heights" ["steps"] spHts) :
    FnOk P w K mg base CX0 3 f fd ["book"] (spEndless K C) := by
  obtain ⟨fN, fdN, DN, GN⟩ := hN
  obtain ⟨fH, fdH, DH, GH⟩ := hH
  refine F.ok scEndless (fun vs H Q E h => ?_) (fun cdv A outer s H vs Q E hr h => ?_)
  · obtain ⟨_, _, rfl, _⟩ := h
    rfl
  · obtain ⟨b, L, rfl, hb, pc, k⟩ := h
    have hu := hu_of hr
    refine ⟨_, pss_cons (ps_set (i := 1) scEndless.nd rfl (Or.inr rfl) (pe_call GN hr rfl DN.g DN.F.kp DN.b .nil pass0 (pa_cons (pv 0) pa_nil)))
      (pss_cons (ps_set (i := 2) scEndless.nd rfl (Or.inr rfl) (pe_call GH (hr.mono (by decide)) rfl DH.g DH.F.kp DH.b .nil pass0 (pa_cons (pv 1) pa_nil)))
      (pss_cons (ps_if (pt_cmpR op_eq (pe_callB call_lenD (by rfl) T.len PySem.boot_len (pa_cons (pv 2) pa_nil)) (pe_callB call_lenD (by rfl) T.len PySem.boot_len (pa_cons (pv 1) pa_nil)) (nomark _)) (pss_one (ps_ret pe_non)) pss_nil)
      (pss_cons (ps_set (i := 3) scEndless.nd rfl (Or.inr rfl) pe_str)
      (pss_cons (ps_set (i := 4) scEndless.nd rfl (Or.inl rfl) pe_str)
      (pss_cons (ps_set (i := 5) scEndless.nd rfl (Or.inl rfl) pe_dnewK)
      (pss_cons (ps_while PassesOwn.never (pt_cmp (pc_dnotin hu (pv 3) (pv 5)))
        (pss_cons (ps_dput hu (pv 5) (pv 3) (pLen T (pv 4)) rfl)
        (pss_cons (ps_set (i := 6) scEndless.nd rfl (Or.inl rfl) (pe_lock (pe_callB (cr_minTx rfl hr.units) rfl T.min (by decide +kernel) (pa_cons
            (pe_lc (own := [("one", 7)]) (g := gName 7) rfl scEndless.nd (pi_keys (pe_dget hu (pv 1) (pv 3) (fun _ _ => rfl))) (blkOk_by (N := ["book", "steps", "ends", "front", "text", "places", "letter", "one"]) (sc := defScope sEndless) (by decide +kernel))
                (fun _ _ _ _ _ => pg_name (i := 7) scEndless.nd rfl (Or.inl rfl)) (fun _ _ _ _ _ => pts_one (pt_cmp (pc_dnotin hu (pe_dget hu (pe_dget hu (pv 1) (pv 3) (fun _ _ => rfl)) (pv 7) (fun _ _ => rfl)) (pv 2)))) (fun _ _ _ _ _ => pv 7)) pa_nil))))
        (pss_cons (ps_set (i := 4) scEndless.nd rfl (Or.inl rfl) (pe_op op_add_str (pv 4) (pv 6)))
        (pss_one (ps_set (i := 3) scEndless.nd rfl (Or.inr rfl) (pe_dget hu (pe_dget hu (pv 1) (pv 3) (fun _ _ => rfl)) (pv 6) (fun _ _ => rfl))))))))
      (pss_one (ps_ret (pe_tup (pa_cons (pe_slice C8.sl_txt (pv 4) po_none (po_some (pe_dget hu (pv 5) (pv 3) (fun _ _ => rfl)))) (pa_cons (pe_slice C8.sl_txt (pv 4) (po_some (pe_dget hu (pv 5) (pv 3) (fun _ _ => rfl))) po_none) pa_nil))))))))))), ?_⟩
    refine ⟨_, rfl, b, L, rfl, hb, pc, fun d g H1 hg S1 hs nd => ?_⟩
    have gf := g_few pc hg
    have W := hg.whole
    refine ⟨_, rfl, d, g, L, ownOf L, rfl, hs, W, by omega, (own_ownOf pc).len pc, fun e F0 H2 hF S2 ne he => ?_⟩
    obtain ⟨as, hd, hrow⟩ := hs.same S2
    have Flen : F0.length ≤ g.length := by have := FT.nodup_len hF.nd hF.sub; simpa using this
    refine ⟨_, rfl, e, _, rfl, he, _, rfl, d, _, rfl, hd, rfl, _, rfl, ?_⟩
    rw [dk_len, dk_len, hrow.len]
    by_cases hen : F0.length = g.length
    · have c := (hF.count_iff W).mp hen
      exact ifT (by rw [hen]) ((k g H2 hg (S1.trans S2)).1 c)
    refine ifF (fun z => hen (by have := V.int.inj z; omega)) ?_
    have nen : ¬ Ends_ g := fun z => hen ((hF.count_iff W).mpr z)
    have out0 : [] ∉ F0.map (·.1) := fun z => hen ((hF.enough_iff W).mpr z)
    intro q nq
    have ndq : d ≠ q := ne_of_none hd nq
    have neq : e ≠ q := ne_of_none he nq
    have nas : ∀ p ∈ as, p.2 ≠ q := fun p hp => by
      obtain ⟨_, r, ee⟩ := hrow.mem hp
      exact ne_of_none ee nq
    have nq0 : H q = none := (S1.trans S2).free nq
    refine while_at (α := Tx × Tx × List (Tx × Int)) (fun a σ H' => ∃ x6, σ = [some (.ref b), some (.ref d), some (.ref e), some (tx a.2.1), some (tx a.1), some (.ref q), x6, none] ∧ Same H2 H' ∧ H' q = some (.dK (dk V.int a.2.2)) ∧ Way L g F0 a.1 a.2.1 a.2.2)
      (fun a => g.length - a.2.2.length) ([], [], []) ⟨_, by rw [nil_S]; rfl, Same.upd nq, by rw [upd_same]; rfl, .nil, out0, .nil g, rfl, fun _ _ h => (nomatch h)⟩ ?_ ?_
    · rintro ⟨u, ft, pl⟩ σ H3 ⟨x6, rfl, S3, hq3, wy⟩
      have wy : Way L g F0 u ft pl := wy
      have hq3 : H3 q = some (.dK (dk V.int pl)) := hq3
      have wl := wy.kin.len
      have ul : u.length ≤ 97 := by have := wy.len; omega
      refine ⟨_, rfl, _, rfl, q, _, rfl, dget_dk (f := V.int) (.inl hq3) ft, _, rfl, ?_⟩
      rw [map_isSome, aget_dec]
      by_cases hin : ft ∈ pl.map (·.1)
      · rw [decide_eq_true hin]
        refine iteF ?_
        obtain ⟨v, hv⟩ := FT.aget_isSome.mpr hin
        obtain ⟨i, rfl, hi, hr2⟩ := wy.at_ ft v (FT.aget_some_mem hv)
        refine ⟨_, rfl, _, rfl, _, rfl, q, .int (i : Int), rfl, dget_some (f := V.int) (.inl hq3) hv, _, rfl, SX.S u, rfl, by rw [SX.S_len]; exact sz1 (by omega), _, rfl, _, rfl, _, rfl, q, .int (i : Int), rfl, dget_some (f := V.int) (.inl hq3) hv, _, rfl, SX.S u, rfl, by rw [SX.S_len]; exact sz1 (by omega), by show 2 ≤ sizeLine; exact sz1 (by omega), fun t nt => ?_⟩
        rw [SX.slice_to (by omega), SX.slice_from (by omega), Int.toNat_natCast]
        have S4 := (S1.trans S2).trans S3
        exact (k g _ hg (Same.new S4 (S4.free nt))).2 nen (u.take i) (u.drop i) t (wy.ever pc gf hi hr2) upd_same (S4.free nt)
      · rw [decide_eq_false hin]
        refine iteT ?_
        have hfg := W.run wy.run
        have hag := W.get hfg
        have rw1 : FT.rowOf g ft = FT.succs L (ownOf L) ft := W.row' hfg
        have rl : (FT.succs L (ownOf L) ft).length ≤ 8 := Nat.le_trans (FT.succs_len ft) ((own_ownOf pc).len pc)
        obtain ⟨c0, b0, hcb, hb0⟩ := hF.clo ft hfg wy.out
        rw [rw1] at hcb
        obtain ⟨a, haa, nad, ha2⟩ := hrow.get hag
        generalize hrr : FT.succs L (ownOf L) ft = r at hag rw1 rl ha2 hcb
        have naq : a ≠ q := ne_of_none ha2 nq
        refine ⟨_, rfl, _, u.length, rfl, ⟨by rw [SX.S_len]; exact sz1 (show u.length ≤ 100000 by omega), (SX.S_len u).symm⟩, _, rfl, _, rfl, q, _, rfl, dput_dk (f := V.int) (v := (u.length : Int)) hq3 (by omega) ft, ?_⟩
        have S4 : Same H2 (upd H3 q (.dK (dk V.int (aput pl ft (u.length : Int))))) := Same.new S3 nq
        have hq4 : (upd H3 q (.dK (dk V.int (aput pl ft (u.length : Int))))) q = _ := upd_same
        generalize upd H3 q (.dK (dk V.int (aput pl ft (u.length : Int)))) = H4 at S4 hq4 ⊢
        rw [FT.aput_new hin] at hq4
        have hd4 := S4 _ _ hd
        have he4 := S4 _ _ he
        have ha4 := S4 _ _ ha2
        have nea : e ≠ a := fun z => by
          subst z
          rw [ha2] at he
          have e1 := HO.dK.inj (Option.some.inj he)
          obtain ⟨m, hm, em⟩ := List.getElem_of_mem hcb
          have e2 : (rowD r)[m]? = some (kx [c0], tx b0) := by
            unfold rowD dk
            rw [List.getElem?_map, List.getElem?_map, List.getElem?_eq_getElem hm, em]
            rfl
          rw [e1] at e2
          obtain ⟨_, _, _, _, e3⟩ := dk_get e2
          cases e3
        have rg : ∀ (m : Nat) cb, r[m]? = some cb → aget (r.map fun cb => ([cb.1], cb.2)) ([cb.1] : Tx) = some cb.2 := fun m cb hm => by
          have nd : ((r.map fun cb => ([cb.1], cb.2)).map (fun p : Tx × Tx => p.1)).Nodup := by
            rw [List.map_map, ← hrr]
            have := succs_nodup (P := L) (f := ft) (own := ownOf L) ((own_ownOf pc).1.imp fun z => Nat.ne_of_lt z)
            have e : ((fun p : Tx × Tx => p.1) ∘ fun cb : Nat × Tx => ([cb.1], cb.2)) = (fun c : Nat => [c]) ∘ (fun cb : Nat × Tx => cb.1) := rfl
            rw [e, ← List.map_map]
            rw [List.nodup_iff_pairwise_ne, List.pairwise_map]
            exact (List.nodup_iff_pairwise_ne.mp this).imp fun hh z => hh (by simpa using z)
          exact FT.aget_mem nd (List.mem_map.mpr ⟨cb, List.mem_of_getElem? hm, rfl⟩)
        refine ⟨a, .dK (rowD r), ha4, True.intro, fun od => ?_⟩
        refine ⟨_, rfl, _, rfl, d, .ref a, rfl, dget_some (.inl (by rw [upd_ne nad.symm]; exact hd4)) haa, a, od, rfl, .inl ⟨_, upd_same, fun D nD => ?_⟩⟩
        have naD : a ≠ D := ne_of_none upd_same nD
        have ndD : d ≠ D := ne_of_none (show (upd H4 a (.frz od (.dK (rowD r)))) d = _ by rw [upd_ne nad.symm]; exact hd4) nD
        have neD : e ≠ D := ne_of_none (show (upd H4 a (.frz od (.dK (rowD r)))) e = _ by rw [upd_ne nea]; exact he4) nD
        have len : (rowD r).length = r.length := by simp [rowD, dk]
        refine lc_acc r.length (fun i => ((r.take i).filter fun cb => !decide (cb.2 ∈ F0.map (·.1))).map fun cb => tx [cb.1]) rfl (fun i hi => ⟨by rw [upd_ne naD, upd_same], by rw [len]; exact hi⟩) ⟨by rw [upd_ne naD, upd_same], by rw [len]; exact Nat.le_refl _⟩ (fun i x H' hi y => ?_) ?_
        · obtain ⟨rfl, kk, vv, hy, rfl⟩ := y
          have er := List.getElem?_eq_getElem hi
          have : kk = kx [r[i].1] ∧ vv = tx r[i].2 := by
            unfold rowD dk at hy
            rw [List.getElem?_map, List.getElem?_map, er] at hy
            cases hy
            exact ⟨rfl, rfl⟩
          obtain ⟨rfl, rfl⟩ := this
          have st : (r.take (i + 1)).filter (fun cb => !decide (cb.2 ∈ F0.map (·.1))) = (r.take i).filter (fun cb => !decide (cb.2 ∈ F0.map (·.1))) ++ (if (!decide (r[i].2 ∈ F0.map (·.1))) = true then [r[i]] else []) := by
            rw [List.take_add_one, er, List.filter_append]
            congr 1
            simp only [Option.toList, List.filter_cons, List.filter_nil]
          have hz : (((r.take i).filter fun cb => !decide (cb.2 ∈ F0.map (·.1))).map fun cb => tx [cb.1]).length < sizeLine := by
            rw [List.length_map]
            refine big_lt (Nat.le_trans (List.length_filter_le _ _) ?_)
            rw [List.length_take]
            omega
          refine ⟨rfl, _, rfl, _, rfl, d, .ref a, rfl, dget_some (.inl (by rw [upd_ne ndD, upd_ne nad.symm]; exact hd4)) haa, _, rfl, a, tx r[i].2, rfl, dget_some (f := tx) (.inr ⟨od, by rw [upd_ne naD, upd_same]; rfl⟩) (rg i _ er), _, rfl, e, _, rfl, dget_dk (f := V.int) (.inl (by rw [upd_ne neD, upd_ne nea]; exact he4)) r[i].2, _, rfl, ?_⟩
          rw [map_isSome, aget_dec]
          cases cb : decide (r[i].2 ∈ F0.map (·.1)) with
          | true =>
            refine iteF ?_
            rw [cb, if_neg (by decide), List.append_nil] at st
            rw [st]
          | false =>
            rw [cb, if_pos (by decide)] at st
            refine iteT ⟨_, rfl, lc_end hz ?_⟩
            rw [st, List.map_append]
            rfl
        · rw [List.take_length]
          refine ⟨D, (r.filter fun cb => !decide (cb.2 ∈ F0.map (·.1))).map fun cb => SX.S [cb.1], rfl, SqL.of (by rw [upd_same, List.map_map]; rfl), fun z => ?_, fun m hm => ?_⟩
          · have z2 := List.map_eq_nil_iff.mp z
            have : (c0, b0) ∈ r.filter fun cb => !decide (cb.2 ∈ F0.map (·.1)) := List.mem_filter.mpr ⟨hcb, by simpa using hb0⟩
            rw [z2] at this
            cases this
          · obtain ⟨⟨c1, b1⟩, hm2, rfl⟩ := List.mem_map.mp hm
            obtain ⟨hm3, hb1⟩ := List.mem_filter.mp hm2
            have hb1' : b1 ∉ F0.map (·.1) := by simpa using hb1
            obtain ⟨mi, hmi, emi⟩ := List.getElem_of_mem hm3
            have got := rg mi (c1, b1) (by rw [List.getElem?_eq_getElem hmi, emi])
            refine ⟨by rw [upd_ne naD, upd_same], ?_⟩
            have S5 : Same H4 (upd (upd (upd H4 a (.frz od (.dK (rowD r)))) D (.lst ((r.filter fun cb => !decide (cb.2 ∈ F0.map (·.1))).map fun cb => tx [cb.1]))) a (.dK (rowD r))) := Same.unlock ha4 (Same.upd nD)
            refine ⟨_, rfl, _, rfl, SX.S u, SX.S [c1], rfl, rfl, by rw [SX.S_len, SX.S_len]; exact sz1 (by simp; omega), ?_⟩
            refine ⟨_, rfl, _, rfl, d, .ref a, rfl, dget_some (.inl (S5 _ _ hd4)) haa, _, rfl, a, tx b1, rfl, dget_some (f := tx) (.inl (S5 _ _ ha4)) got, ?_⟩
            refine ⟨(u ++ [c1], b1, pl ++ [(ft, (u.length : Int))]), ⟨tx [c1], ?_, S4.trans S5, S5 _ _ hq4, wy.step W hin (by rw [hrr]; exact hm3) hb1'⟩, ?_⟩
            · exact congrArg (fun z => [some (V.ref b), some (V.ref d), some (V.ref e), some (tx b1), some (V.str z), some (V.ref q), some (tx [c1]), none]) (add_S u [c1])
            · have hlt := (wy.step W hin (by rw [hrr]; exact hm3) hb1').kin.len
              show g.length - (pl ++ [(ft, (u.length : Int))]).length < g.length - pl.length
              rw [List.length_append, List.length_singleton] at hlt ⊢
              omega
    · rintro σ H1 Q1 Q2 h ⟨a, h1, b, h2, d', o, h3, h4, c, h5, h6⟩
      exact ⟨a, h1, b, h2, d', o, h3, h4, c, h5, h _ _ h6⟩
end
end FTW
end
section
set_option Elab.async false
set_option linter.all false
set_option maxRecDepth 100000
set_option maxHeartbeats 4000000
/-! free_texts -/
namespace FTW
open PySem PySem.Spec PyProof.Rows L2 FTR
open FT (Tx Gr aget aput)
/-- a list of pairs -/
def Prs {α : Type} (c1 c2 : α → V) (H : Hp) (ps : List α) (ts : List Addr) : Prop := Paired (fun (a : α) (t : Addr) => H t = some (.tup [c1 a, c2 a])) ps ts
theorem Prs.same {α : Type} {c1 c2 : α → V} {H H' : Hp} {ps : List α} {ts : List Addr} (h : Prs c1 c2 H ps ts) (s : ∀ b xs, H b = some (.tup xs) → H' b = some (.tup xs)) : Prs c1 c2 H' ps ts := by
  unfold Prs at h ⊢
  induction h with
  | nil => exact .nil
  | cons r t ih => exact .cons (s _ _ r) ih
theorem Prs.len {α : Type} {c1 c2 : α → V} {H : Hp} {ps : List α} {ts : List Addr} (h : Prs c1 c2 H ps ts) : ps.length = ts.length := Paired.length h
theorem Prs.app {α : Type} {c1 c2 : α → V} {H : Hp} {ps qs : List α} {ts us : List Addr} (h : Prs c1 c2 H ps ts) (h2 : Prs c1 c2 H qs us) : Prs c1 c2 H (ps ++ qs) (ts ++ us) := by
  unfold Prs at h h2 ⊢
  induction h with
  | nil => exact h2
  | cons r t ih => exact .cons r ih
theorem Prs.get {α : Type} {c1 c2 : α → V} {H : Hp} {ps : List α} {ts : List Addr} (h : Prs c1 c2 H ps ts) {i : Nat} {t : Addr} (e : ts[i]? = some t) : ∃ a, ps[i]? = some a ∧ H t = some (.tup [c1 a, c2 a]) := by
  unfold Prs at h
  induction h generalizing i with
  | nil => simp at e
  | cons r _ ih =>
    cases i with
    | zero =>
      cases Option.some.inj e
      exact ⟨_, rfl, r⟩
    | succ i => exact ih e
theorem Prs.get' {α : Type} {c1 c2 : α → V} {H : Hp} {ps : List α} {ts : List Addr} (h : Prs c1 c2 H ps ts) {i : Nat} {a : α} (e : ps[i]? = some a) : ∃ t, ts[i]? = some t ∧ H t = some (.tup [c1 a, c2 a]) := by
  unfold Prs at h
  induction h generalizing i with
  | nil => simp at e
  | cons r _ ih =>
    cases i with
    | zero =>
      cases Option.some.inj e
      exact ⟨_, rfl, r⟩
    | succ i => exact ih e
theorem tups_same {H H' : Hp} (s : Same H H') : ∀ b xs, H b = some (.tup xs) → H' b = some (.tup xs) := fun b xs e => s _ _ e
theorem tups_upd {H : Hp} {a : Addr} {o : HO} (h : ∀ xs, H a ≠ some (.tup xs)) : ∀ b xs, H b = some (.tup xs) → (upd H a o) b = some (.tup xs) := fun b xs e => by
  rw [upd_ne (fun z : b = a => by rw [z] at e; exact h xs e)]
  exact e
section
variable {te : TE} {vs : List Nat} {σ : L2.St} {H1 : Hp} {D : Addr} {Qd : Hp → Prop}
/-- [.. for x, y in list of pairs] -/
theorem lc_prs {α : Type} {K : PySem.W.Frag} {le : Addr} {p q : Nat} {c1 c2 : α → V} (ps : List α) (ts : List Addr) (f : α → V) (hl : SqL K H1 le (ts.map V.ref)) (hp : Prs c1 c2 H1 ps ts) (new : H1 D = none) (sz : ps.length ≤ 100000)
    (hs : ∀ (i : Nat) a, ps[i]? = some a → ∀ acc, acc.length < sizeLine → wipe (((wipe σ vs).set p (some (c1 a))).set q (some (c2 a))) vs = wipe σ vs ∧
      te (((wipe σ vs).set p (some (c1 a))).set q (some (c2 a))) (upd H1 D (.lst acc)) fun y H4 => ∃ ac, H4 D = some (.lst ac) ∧ ac.length < sizeLine ∧ upd H4 D (.lst (ac ++ [y])) = upd H1 D (.lst (acc ++ [f a]))) (hd : Qd (upd H1 D (.lst (ps.map f)))) :
    ∃ W : Nat → Nat → Hp → Prop, (∃ m, W 0 m (upd H1 D (.lst []))) ∧ ∀ i m H, W i m H →
      ((Itl K le).stop i H ∧ Qd H) ∨ ((Itl K le).go i H ∧ ∃ Nx : Hp → Prop, (∀ H', Nx H' → ∃ m', m' < m ∧ W (i + 1) m' H') ∧ ∀ x H', (Itl K le).yld i H x H' → (gTup K 2 (gCons (gName p) (gCons (gName q) gNil))) x (wipe σ vs) H' fun σ2 H2 => wipe σ2 vs = wipe σ vs ∧ tYes σ2 H2 fun b H3 =>
        if b = true then te σ2 H3 fun y H4 => ∃ acc, H4 D = some (.lst acc) ∧ acc.length < sizeLine ∧ Nx (upd H4 D (.lst (acc ++ [y]))) else Nx H3) := by
  have len := hp.len
  refine lc_all ps.length (fun i => (ps.take i).map f) rfl (fun i hi => ⟨_, .ref (ts[i]'(by omega)), seq_updL new hl, by rw [List.getElem?_map, List.getElem?_eq_getElem (by omega)]; rfl⟩) ⟨_, seq_updL new hl, by simp; omega⟩ (fun i x H' hi y => ?_) (by simpa using hd)
    (fun x σ H Q Q' k ⟨a, xs, h1, h2, h3, v, r, h4, w, r2, h5, h6, h7⟩ => ⟨a, xs, h1, h2, h3, v, r, h4, w, r2, h5, h6, k _ _ h7⟩)
  obtain ⟨rfl, y⟩ := y
  have e := y _ (seq_updL new hl)
  have e' := List.getElem?_eq_getElem hi
  obtain ⟨t, et, ht⟩ := hp.get' e'
  rw [List.getElem?_map, et] at e
  cases e
  have ntD : t ≠ D := ne_of_none ht new
  have := hs i _ e' ((ps.take i).map f) (big_lt (by simp; omega))
  rw [← take_map_succ (f := f) e'] at this
  exact ⟨t, _, rfl, SqT.of (by rw [upd_ne ntD]; exact ht), rfl, _, _, rfl, _, _, rfl, rfl, this⟩
end
theorem row_sorted {P : List Tx} {own : List Nat} {f : Tx} (s : own.Pairwise (· < ·)) : ((FT.succs P own f).map (·.1)).Pairwise (· < ·) := by
  have sub : ((FT.succs P own f).map (·.1)).Sublist own := by
    unfold FT.succs
    clear s
    induction own with
    | nil => exact .slnil
    | cons c own ih =>
      rw [List.filterMap_cons]
      split
      · exact ih.cons _
      · rename_i b e
        split at e
        · cases e
        · cases e
          exact ih.cons₂ _
  exact s.sublist sub
/-- sorted of the row's keys: as they stand -/
theorem sorted_row {r : List (Nat × Tx)} (s : (r.map (·.1)).Pairwise (· < ·)) {ys : List Str} (p : ys.Perm (r.map fun cb => SX.S [cb.1])) (h : sortedS ys = true) : ys.map V.str = r.map fun cb => tx [cb.1] := by
  obtain ⟨zs, rfl⟩ := sings_of ys fun x hx => by
    obtain ⟨cb, _, e⟩ := List.mem_map.mp (p.mem_iff.mp hx)
    exact ⟨cb.1, e.symm⟩
  have pe : (zs.map Froz.sing).Perm ((r.map (·.1)).map Froz.sing) := by rw [List.map_map]; exact p
  have p2 := perm_sings pe
  have nd : (r.map (·.1)).Nodup := s.imp fun z => Nat.ne_of_lt z
  have e : zs = r.map (·.1) := sorted_one (strict_codes (sorted_codes h) (p2.nodup_iff.mpr nd)) s fun c => p2.mem_iff
  rw [e, List.map_map, List.map_map]
  rfl
abbrev sFree : Stmt := top 29
theorem scFree : FnScope ["book", "steps", "found", "layer", "later", "text", "front", "letter"] ["book"] (defScope sFree) := ⟨rfl, rfl, rfl, by decide +kernel, rfl, by decide +kernel, by decide +kernel⟩
def spFree (K : PySem.W.Frag) (C N M : Addr) : Sp := fun vs H Q E => ∃ b P, vs = [.ref b] ∧ BookAt K C H b P ∧ Pcs P ∧ ∀ g H', FT.IsG P (ownOf P) g → Same H H' →
  (¬ Ends_ g → E (.ref N) none H') ∧ (Ends_ g → (∀ l p, FT.FreeRes g (some l) → H' p = some (.lst (l.map tx)) → H p = none → Q (.ref p) H') ∧ (FT.FreeRes g none → ∀ d, H' d = none → E (.ref M) (some d) (upd H' d (.xd [("most", .int 3000)]))))
/-- the state of the walk through the layers -/
structure Lay (g : Gr) (k : Nat) : Prop where
  few : (FT.alls g (k + 1)).length ≤ 3000
  deep : k ≤ (FT.alls g k).length
theorem alls_next (g : Gr) (k : Nat) : FT.alls g (k + 1) = FT.alls g k ++ (FT.lay g k).map (·.1) := rfl
theorem latr_len {g : Gr} {n : Nat} (h : ∀ f, (FT.rowOf g f).length ≤ n) : ∀ l : List (Tx × Tx), (FT.latr g l).length ≤ l.length * n
  | [] => by simp [FT.latr]
  | p :: l => by
    have h1 := h p.2
    have h2 := latr_len h l
    unfold FT.latr at h2 ⊢
    rw [List.flatMap_cons, List.length_append, List.length_map, List.length_cons, Nat.succ_mul]
    omega
theorem row_len {P : List Tx} {own : List Nat} {g : Gr} (W : FT.Whole P own g) (f : Tx) : (FT.rowOf g f).length ≤ own.length := by
  by_cases hf : f ∈ g.map (·.1)
  · rw [W.row' hf]
    exact FT.succs_len f
  · unfold FT.rowOf
    rw [FT.aget_none.mpr hf]
    exact Nat.zero_le _
section
variable {P : Program} {w : World} {K : PySem.W.Frag} {mg : Str → Option Value} {base : Heap}
theorem ok_free {f C N M fI : Addr} {fd : FuncData} (F : Fun K "free_texts" "free_texts" sFree f fd) (T : Bt mg) {t : Tok} (gM : mg "MOST_FREE" = some (.int 3000 t)) (TM : FTE.ManyTxt P K mg M fI)
    (hC : Has P w K mg base (L2.CX P w) 4 sCheckE "check_enough" ["book"] (spCheckE K C N)) (hN : Has P w K mg base CX0 2 sNext "next_fronts" ["book"] (spNext K C)) :
    FnOk P w K mg base (L2.CX P w) 5 f fd ["book"] (spFree K C N M) := by
  obtain ⟨fN, fdN, DN, GN⟩ := hN
  obtain ⟨fC, fdC, DC, GC⟩ := hC
  refine F.okX scFree (fun vs H Q E h => ?_) (fun cdv A outer s H vs Q E hr h => ?_)
  · obtain ⟨_, _, rfl, _⟩ := h
    rfl
  · obtain ⟨b, L, rfl, hb, pc, k⟩ := h
    have hu := hu_of hr
    refine ⟨_, pss_cons (ps_expr (pe_call GC hr rfl DC.g DC.F.kp DC.b .nil (passes_call (takes_of rfl rfl rfl rfl) (fun cls d σ H (q : E cls d H) => q)) (pa_cons (pv 0) pa_nil)))
      (pss_cons (ps_set (i := 1) scFree.nd rfl (Or.inr rfl) (pe_call GN (hr.mono (by decide)) rfl DN.g DN.F.kp DN.b .nil pass0 (pa_cons (pv 0) pa_nil)))
      (pss_cons (ps_set (i := 2) scFree.nd rfl (Or.inl rfl) (pe_lst (pa_cons pe_str pa_nil)))
      (pss_cons (ps_set (i := 3) scFree.nd rfl (Or.inl rfl) (pe_lst (pa_cons (pe_tup (pa_cons pe_str (pa_cons pe_str pa_nil))) pa_nil)))
      (pss_cons (ps_while (passes_of rfl) (pt_cmpR op_gt (pLen T (pv 3)) pe_int (nomark _))
        (pss_cons (ps_set (i := 4) scFree.nd rfl (Or.inl rfl) (pe_lst pa_nil))
        (pss_cons (ps_for (passes_of rfl) rfl (pi_list (pv 3)) (pg_tup rfl (pgs_cons (pg_name (i := 5) scFree.nd rfl (Or.inr rfl)) (pgs_cons (pg_name (i := 6) scFree.nd rfl (Or.inr rfl)) pgs_nil)))
          (pss_one (ps_expr (pe_bm PySem.F.plainAttrs_list PySem.F.slot_list_extend PySem.F.type_list_extend mt_extend (pv 4) (pa_cons
            (pe_lc (own := [("letter", 7)]) (g := gName 7) (tt := tYes) rfl scFree.nd (pi_list (pe_callB (call_sortedD rfl) rfl T.sorted (by decide +kernel) (pa_cons (pe_dget hu (pv 1) (pv 6) (fun _ _ => rfl)) pa_nil)))
              (blkOk_by (N := ["book", "steps", "found", "layer", "later", "text", "front", "letter"]) (sc := defScope sFree) (by decide +kernel))
              (fun _ _ _ _ _ => pg_name (i := 7) scFree.nd rfl (Or.inl rfl)) (fun _ _ _ _ _ => pts_nil) (fun _ _ _ _ _ => pe_tup (pa_cons (pe_op op_add_str (pv 5) (pv 7)) (pa_cons (pe_dget hu (pe_dget hu (pv 1) (pv 6) (fun _ _ => rfl)) (pv 7) (fun _ _ => rfl)) pa_nil)))) pa_nil)))))
        (pss_cons (ps_expr (pe_bm PySem.F.plainAttrs_list PySem.F.slot_list_extend PySem.F.type_list_extend mt_extend (pv 2) (pa_cons
            (pe_lc (own := [("text", 5), ("front", 6)]) (g := gTup K 2 (gCons (gName 5) (gCons (gName 6) gNil))) (tt := tYes) rfl scFree.nd (pi_list (pv 4))
              (blkOk_by (N := ["book", "steps", "found", "layer", "later", "text", "front", "letter"]) (sc := defScope sFree) (by decide +kernel))
              (fun _ _ _ _ _ => pg_tup rfl (pgs_cons (pg_name (i := 5) scFree.nd rfl (Or.inl rfl)) (pgs_cons (pg_name (i := 6) scFree.nd rfl (Or.inl rfl)) pgs_nil))) (fun _ _ _ _ _ => pts_nil) (fun _ _ _ _ _ => pv 5)) pa_nil)))
        (pss_cons (ps_if (pt_cmpR op_gt (pLen T (pv 2)) (pe_glob (v := .int 3000) rfl gM ⟨_, rfl⟩) (nomark _)) (pss_one (ps_raiseMany rfl TM hr (takes_of rfl rfl rfl rfl) (pa_cons (pe_glob (v := .int 3000) rfl gM ⟨_, rfl⟩) pa_nil))) pss_nil)
        (pss_one (ps_set (i := 3) scFree.nd rfl (Or.inl rfl) (pv 4))))))))
      (pss_one (ps_ret (pv 2))))))), ?_⟩
    refine ⟨_, rfl, b, L, rfl, hb, pc, fun g H1 hg S1 => ⟨fun c => ?_, fun c => (k g H1 hg S1).1 c⟩⟩
    refine ⟨_, rfl, b, L, rfl, hb.same S1, pc, fun d g' H2 hg' S2 hs nd => ?_⟩
    obtain rfl := hg.one hg'
    have gf := g_few pc hg
    have W := hg.whole
    obtain ⟨as, hd2, hrow2⟩ := hs
    have oo := own_ownOf pc
    have ol := oo.len pc
    have S02 := S1.trans S2
    refine ⟨by show 1 ≤ sizeLine; exact sz1 (by omega), fun fo nfo => ?_⟩
    refine ⟨by show 2 ≤ sizeLine; exact sz1 (by omega), fun t0 nt0 => ⟨by show 1 ≤ sizeLine; exact sz1 (by omega), fun la nla => ?_⟩⟩
    have nft : fo ≠ t0 := ne_of_none upd_same nt0
    have nt02 : H2 t0 = none := (Same.upd nfo).free nt0
    have nfl : fo ≠ la := ne_of_none (by rw [upd_ne nft]; exact upd_same) nla
    have nla2 : H2 la = none := (Same.new (Same.upd nfo) nt02).free nla
    have ntl : t0 ≠ la := ne_of_none upd_same nla
    refine while_at (α := Nat) (fun kk σ H' => ∃ la ts x4 x5 x6, σ = [some (.ref b), some (.ref d), some (.ref fo), some (.ref la), x4, x5, x6, none] ∧ Same H2 H' ∧ H' fo = some (.lst ((FT.alls g (kk + 1)).map tx)) ∧ H' la = some (.lst (ts.map V.ref)) ∧
        Prs (fun tf : Tx × Tx => tx tf.1) (fun tf => tx tf.2) H' (FT.lay g kk) ts ∧ Lay g kk ∧ fo ≠ la)
      (fun kk => (3001 - (FT.alls g (kk + 1)).length) * 2 + if FT.lay g kk = [] then 0 else 1) 0
      ⟨la, [t0], _, _, _, rfl, Same.new (Same.new (Same.upd nfo) nt02) nla2, by rw [upd_ne nfl, upd_ne nft, upd_same, nil_S]; rfl, upd_same, .cons (by rw [upd_ne ntl, upd_same, nil_S]) .nil, ⟨by show 1 ≤ 3000; omega, Nat.zero_le _⟩, nfl⟩ ?_ mono_lenpos
    rintro kk σ H3 ⟨la, ts, x4, x5, x6, rfl, S3, hfo, hla, hp, ly, nfl⟩
    have lyf := ly.few
    have lyd := ly.deep
    have an := congrArg List.length (alls_next g kk)
    rw [List.length_append, List.length_map] at an
    have tl := hp.len
    refine ⟨_, rfl, _, ts.length, rfl, .inl ⟨_, SqL.of hla, by simp⟩, _, _, rfl, rfl, _, rfl, ?_⟩
    by_cases e : FT.lay g kk = []
    · rw [e] at tl
      refine ifF (by simp at tl; omega) ⟨_, rfl, ?_⟩
      refine ((k g H3 hg (S02.trans S3)).2 c).1 _ fo ⟨kk + 1, by rw [FT.lay_succ, e]; rfl, rfl, ly.few⟩ hfo (S02.free nfo)
    have lp : 0 < (FT.lay g kk).length := List.length_pos_iff.mpr e
    refine ifT (by omega) ⟨Nat.zero_le _, fun le nle => ?_⟩
    have nfe : fo ≠ le := ne_of_none hfo nle
    have nae : la ≠ le := ne_of_none hla nle
    have nle2 : H2 le = none := S3.free nle
    have hd3 := S3 _ _ hd2
    have hrow3 : Rows H3 d g as := hrow2.same fun p _ o e => S3 _ _ e
    refine ⟨_, rfl, la, rfl, ⟨_, SqL.of (by rw [upd_ne nae]; exact hla)⟩, for_walk ts.length (fun i σ H' => ∃ us x5 x6, σ = [some (.ref b), some (.ref d), some (.ref fo), some (.ref la), some (.ref le), x5, x6, none] ∧ Same H3 H' ∧ H' le = some (.lst (us.map V.ref)) ∧
        Prs (fun tf : Tx × Tx => tx tf.1) (fun tf => tx tf.2) H' (FT.latr g ((FT.lay g kk).take i)) us)
      ⟨[], _, _, rfl, Same.upd nle, upd_same, by rw [List.take_zero]; exact .nil⟩ (fun i σ H' hi q => ?_) (fun σ H' q => ?_) ?_ ?_⟩
    · obtain ⟨_, _, _, _, S4, _⟩ := q
      exact ⟨_, .ref ts[i], SqL.of (S4 _ _ hla), by rw [List.getElem?_map, List.getElem?_eq_getElem hi]; rfl⟩
    · obtain ⟨_, _, _, _, S4, _⟩ := q
      exact ⟨_, SqL.of (S4 _ _ hla), by simp⟩
    · rintro i y σ H5 H6 hi ⟨us, y5, y6, rfl, S5, hle, hpu⟩ ⟨rfl, hy⟩
      have ey := hy _ (SqL.of (S5 _ _ hla))
      rw [List.getElem?_map, List.getElem?_eq_getElem hi] at ey
      cases Option.some.inj ey
      obtain ⟨⟨tt, ff⟩, elay, ht⟩ := hp.get (List.getElem?_eq_getElem hi)
      obtain ⟨hrun, hlen⟩ := FT.lay_run W kk tt ff (List.mem_of_getElem? elay)
      have hfg := W.run hrun
      have hag := W.get hfg
      have rw1 : FT.rowOf g ff = FT.succs L (ownOf L) ff := W.row' hfg
      have rl : (FT.succs L (ownOf L) ff).length ≤ 8 := Nat.le_trans (FT.succs_len ff) ol
      have rs := row_sorted (P := L) (f := ff) oo.1
      obtain ⟨a, haa, nad, ha3⟩ := hrow3.get hag
      have lat : FT.latr g ((FT.lay g kk).take (i + 1)) = FT.latr g ((FT.lay g kk).take i) ++ (FT.succs L (ownOf L) ff).map fun cb => (tt ++ [cb.1], cb.2) := by
        unfold FT.latr
        rw [List.take_add_one, elay, List.flatMap_append, ← rw1]
        simp
      generalize FT.succs L (ownOf L) ff = r at hag rw1 rl rs ha3 lat
      have rnd : (r.map (·.1)).Nodup := rs.imp fun z => Nat.ne_of_lt z
      have rg : ∀ (m : Nat) cb, r[m]? = some cb → aget (r.map fun cb => ([cb.1], cb.2)) ([cb.1] : Tx) = some cb.2 := fun m cb hm => by
        have nd : ((r.map fun cb => ([cb.1], cb.2)).map (fun p : Tx × Tx => p.1)).Nodup := by
          rw [List.map_map]
          have e : ((fun p : Tx × Tx => p.1) ∘ fun cb : Nat × Tx => ([cb.1], cb.2)) = (fun c : Nat => [c]) ∘ (fun cb : Nat × Tx => cb.1) := rfl
          rw [e, ← List.map_map, List.nodup_iff_pairwise_ne, List.pairwise_map]
          exact (List.nodup_iff_pairwise_ne.mp rnd).imp fun hh z => hh (by simpa using z)
        exact FT.aget_mem nd (List.mem_map.mpr ⟨cb, List.mem_of_getElem? hm, rfl⟩)
      have hd6 := S5 _ _ hd3
      have ha6 := S5 _ _ ha3
      refine ⟨ts[i], _, rfl, SqT.of (S5 _ _ ht), rfl, _, _, rfl, _, _, rfl, rfl, ?_⟩
      refine ⟨_, rfl, .inl ⟨rfl, _, SqL.of hle⟩, ?_⟩
      refine ⟨_, rfl, _, rfl, d, .ref a, rfl, dget_some (.inl hd6) haa, a, rowD r, r.map fun cb => SX.S [cb.1], rfl, .inl ha6, by unfold rowD dk; rw [List.map_map, List.map_map, List.map_map]; rfl, by rw [List.length_map]; omega, fun ys p pm so np => ?_⟩
      rw [sorted_row rs pm so]
      refine ⟨p, rfl, ⟨_, SqL.of upd_same⟩, fun D nD => ?_⟩
      have S7 : Same H6 (upd H6 p (.lst (r.map fun cb => tx [cb.1]))) := Same.upd np
      have hp7 : (upd H6 p (.lst (r.map fun cb => tx [cb.1]))) p = _ := upd_same
      generalize upd H6 p (.lst (r.map fun cb => tx [cb.1])) = H7 at S7 hp7 nD ⊢
      refine lc_allW r.length (fun m H' => Same H7 H' ∧ ∃ vs, H' D = some (.lst (vs.map V.ref)) ∧ Prs (fun tf : Tx × Tx => tx tf.1) (fun tf => tx tf.2) H' ((r.take m).map fun cb => (tt ++ [cb.1], cb.2)) vs) ⟨Same.upd nD, [], upd_same, .nil⟩
        (fun m H' hm q => ⟨_, tx [r[m].1], SqL.of (q.1 _ _ hp7), by rw [List.getElem?_map, List.getElem?_eq_getElem hm]; rfl⟩) (fun H' q => ⟨_, SqL.of (q.1 _ _ hp7), by simp⟩) (fun m x H8 H9 hm q y => ?_) (fun H8 q => ?_)
      · obtain ⟨rfl, y⟩ := y
        obtain ⟨S8, vs, hD, hpv⟩ := q
        have ex := y _ (SqL.of (S8 _ _ hp7))
        have er := List.getElem?_eq_getElem hm
        rw [List.getElem?_map, er] at ex
        cases Option.some.inj ex
        have S68 := S7.trans S8
        have vl := hpv.len
        rw [List.length_map, List.length_take] at vl
        refine ⟨rfl, _, rfl, _, rfl, SX.S tt, SX.S [r[m].1], rfl, rfl, by rw [SX.S_len, SX.S_len]; exact sz1 (by simp; omega), _, rfl, _, rfl, d, .ref a, rfl, dget_some (.inl (S68 _ _ hd6)) haa, _, rfl, a, tx r[m].2, rfl, dget_some (f := tx) (.inl (S68 _ _ ha6)) (rg m _ er), by show 2 ≤ sizeLine; exact sz1 (by omega), fun t nt => ?_⟩
        have nDt : D ≠ t := ne_of_none hD nt
        refine ⟨_, by rw [upd_ne nDt]; exact hD, by rw [List.length_map]; exact big_lt (by omega), Same.new (Same.new S8 (S8.free nt)) nD, vs ++ [t], by rw [upd_same]; simp, ?_⟩
        rw [take_map_succ (f := fun cb : Nat × Tx => (tt ++ [cb.1], cb.2)) er]
        refine Prs.app (hpv.same fun z xs ez => ?_) (.cons ?_ .nil)
        · rw [upd_ne (ne_of ez hD (by intro q; cases q)), upd_ne (ne_of_none ez nt)]
          exact ez
        · rw [upd_ne nDt.symm, upd_same]
          exact congrArg (fun z => some (HO.tup [V.str z, tx r[m].2])) (add_S tt [r[m].1])
      · obtain ⟨S8, vs, hD, hpv⟩ := q
        rw [List.take_length] at hpv
        have S58 := S7.trans S8
        have ul := hpu.len
        have vl := hpv.len
        rw [List.length_map] at vl
        have ll := latr_len (n := 8) (fun f => Nat.le_trans (row_len W f) ol) ((FT.lay g kk).take i)
        rw [List.length_take] at ll
        have hle8 := S58 _ _ hle
        refine ⟨le, D, _, _, rfl, rfl, hle8, hD, ?_, us ++ vs, _, _, rfl, Same.new (S5.trans S58) nle, by rw [upd_same]; simp, ?_⟩
        · rw [List.length_map, List.length_map]
          exact sz1 (by omega)
        · rw [lat]
          have nt : ∀ xs, H8 le ≠ some (.tup xs) := fun xs z => by rw [hle8] at z; cases z
          exact (hpu.same (fun z xs ez => tups_upd nt _ _ (S58 _ _ ez))).app (hpv.same (tups_upd nt))
    · rintro σ H5 ⟨us, y5, y6, rfl, S5, hle, hpu⟩
      rw [← tl, List.take_length] at hpu
      have hfo5 := S5 _ _ hfo
      have ul := hpu.len
      have ll := latr_len (n := 8) (fun f => Nat.le_trans (row_len W f) ol) (FT.lay g kk)
      refine ⟨_, rfl, .inl ⟨rfl, _, SqL.of hfo5⟩, ?_⟩
      refine ⟨_, rfl, le, rfl, ⟨_, SqL.of hle⟩, fun D nD => ?_⟩
      have nfD : fo ≠ D := ne_of_none hfo5 nD
      have neD : le ≠ D := ne_of_none hle nD
      refine lc_prs (p := 5) (q := 6) (FT.lay g (kk + 1)) us (fun tf => tx tf.1) (SqL.of hle) hpu nD (by rw [FT.lay_succ]; omega) (fun i a e acc hz => ⟨rfl, _, rfl, lc_end hz rfl⟩) ?_
      have fal : (FT.alls g (kk + 1)).map tx ++ (FT.lay g (kk + 1)).map (fun tf => tx tf.1) = (FT.alls g (kk + 1 + 1)).map tx := by
        rw [alls_next g (kk + 1), List.map_append, List.map_map]; rfl
      have an2 := congrArg List.length (alls_next g (kk + 1))
      rw [List.length_append, List.length_map] at an2
      have l2 : (FT.lay g (kk + 1)).length ≤ (FT.lay g kk).length * 8 := by rw [FT.lay_succ]; exact ll
      refine ⟨fo, D, _, _, rfl, rfl, by rw [upd_ne nfD]; exact hfo5, upd_same, by rw [List.length_map, List.length_map]; exact sz1 (by omega), ?_⟩
      rw [fal]
      refine ⟨_, rfl, _, (FT.alls g (kk + 1 + 1)).length, rfl, .inl ⟨_, SqL.of upd_same, by simp⟩, _, _, rfl, rfl, _, rfl, ?_⟩
      have S6 : Same H2 (upd (upd H5 D (.lst ((FT.lay g (kk + 1)).map fun tf => tx tf.1))) fo (.lst ((FT.alls g (kk + 1 + 1)).map tx))) := Same.new (Same.new (S3.trans S5) ((S3.trans S5).free nD)) nfo
      by_cases big : 3000 < (FT.alls g (kk + 1 + 1)).length
      · refine ifT (by omega) ⟨_, rfl, fun dd ndd => ?_⟩
        exact ((k g _ hg (S02.trans S6)).2 c).2 ⟨_, big⟩ dd ndd
      · refine ifF (by omega) ⟨_, rfl, kk + 1, ⟨le, us, _, _, _, rfl, S6, upd_same, by rw [upd_ne nfe.symm, upd_ne neD]; exact hle, ?_, ⟨by omega, by omega⟩, nfe⟩, ?_⟩
        · refine (show Prs _ _ H5 (FT.lay g (kk + 1)) us from hpu).same fun z xs ez => ?_
          rw [upd_ne (ne_of ez hfo5 (by intro q; cases q)), upd_ne (ne_of_none ez nD)]
          exact ez
        · show (3001 - (FT.alls g (kk + 1 + 1)).length) * 2 + (if FT.lay g (kk + 1) = [] then 0 else 1) < (3001 - (FT.alls g (kk + 1)).length) * 2 + (if FT.lay g kk = [] then 0 else 1)
          rw [if_neg e]
          by_cases e2 : FT.lay g (kk + 1) = []
          · rw [if_pos e2]
            omega
          · rw [if_neg e2]
            have := List.length_pos_iff.mpr e2
            omega
end
end FTW
end
section
set_option Elab.async false
set_option linter.all false
set_option maxRecDepth 100000
set_option maxHeartbeats 4000000
/-! the law's own graph -/
namespace FTW
open PySem PySem.Spec PyProof.Rows L2 FTR
open FT (Tx Gr aget aput)
abbrev kc1 : Nat × Tx → V := fun cb => tx [cb.1]
abbrev kc2 : Nat × Tx → V := fun cb => tx cb.2
def LRows (H : Hp) (g : Gr) (as : List (Tx × Addr)) : Prop := Paired (fun (fr : Tx × List (Nat × Tx)) (fa : Tx × Addr) => fr.1 = fa.1 ∧ ∃ ts : List Addr, H fa.2 = some (.lst (ts.map V.ref)) ∧ Prs kc1 kc2 H fr.2 ts) g as
def LGraphAt (H : Hp) (d : Addr) (g : Gr) : Prop := ∃ as : List (Tx × Addr), H d = some (.dK (dk V.ref as)) ∧ LRows H g as
theorem LRows.same {H H' : Hp} {g : Gr} {as : List (Tx × Addr)} (h : LRows H g as) (s1 : ∀ p ∈ as, ∀ o, H p.2 = some o → H' p.2 = some o) (s2 : ∀ b xs, H b = some (.tup xs) → H' b = some (.tup xs)) : LRows H' g as := by
  unfold LRows at h ⊢
  induction h with
  | nil => exact .nil
  | cons r t ih =>
    obtain ⟨e, ts, h1, h2⟩ := r
    exact .cons ⟨e, ts, s1 _ List.mem_cons_self _ h1, h2.same s2⟩ (ih fun p hp => s1 p (List.mem_cons_of_mem _ hp))
theorem LGraphAt.same {H H' : Hp} {d : Addr} {g : Gr} (s : Same H H') (h : LGraphAt H d g) : LGraphAt H' d g := by
  obtain ⟨as, h1, h2⟩ := h
  exact ⟨as, s _ _ h1, h2.same (fun p _ o e => s _ _ e) (tups_same s)⟩
theorem LRows.keys {H : Hp} {g : Gr} {as : List (Tx × Addr)} (h : LRows H g as) : as.map (·.1) = g.map (·.1) := by
  unfold LRows at h
  induction h with
  | nil => rfl
  | cons r t ih => rw [List.map_cons, List.map_cons, r.1, ih]
theorem LRows.len {H : Hp} {g : Gr} {as : List (Tx × Addr)} (h : LRows H g as) : as.length = g.length := by
  have := congrArg List.length h.keys
  simpa using this
theorem LRows.get {H : Hp} {g : Gr} {as : List (Tx × Addr)} (h : LRows H g as) {f : Tx} {r : List (Nat × Tx)} (e : aget g f = some r) : ∃ a ts, aget as f = some a ∧ H a = some (.lst (ts.map V.ref)) ∧ Prs kc1 kc2 H r ts := by
  unfold LRows at h
  induction h with
  | nil => cases e
  | @cons p q l m hr t ih =>
    rw [FT.aget_cons] at e ⊢
    by_cases c : p.1 = f
    · rw [if_pos c] at e
      rw [if_pos (hr.1 ▸ c)]
      cases e
      obtain ⟨_, ts, h1, h2⟩ := hr
      exact ⟨_, ts, rfl, h1, h2⟩
    · rw [if_neg c] at e
      rw [if_neg (hr.1 ▸ c)]
      exact ih e
theorem LRows.mem {H : Hp} {g : Gr} {as : List (Tx × Addr)} (h : LRows H g as) {p : Tx × Addr} (hp : p ∈ as) : ∃ xs, H p.2 = some (.lst xs) := by
  unfold LRows at h
  induction h with
  | nil => cases hp
  | cons r t ih =>
    rcases List.mem_cons.mp hp with e | hp
    · subst e
      obtain ⟨_, ts, h1, _⟩ := r
      exact ⟨_, h1⟩
    · exact ih hp
/-- the ends of a text that are fronts: the first is the longest -/
theorem first_end {P : List Tx} {q : Tx → Bool} (hq : ∀ w, q w = true ↔ w ∈ FT.fronts P) : ∀ w : Tx, ∃ rest, ((List.range (w.length + 1)).map w.drop).filter q = FT.lsuf P w :: rest
  | [] => ⟨[], by
      have : q [] = true := (hq []).mpr (FT.nil_front P)
      simp [FT.lsuf, this]⟩
  | c :: w => by
    have e : (List.range ((c :: w).length + 1)).map (c :: w).drop = (c :: w) :: (List.range (w.length + 1)).map w.drop := by
      rw [List.range_succ_eq_map, List.map_cons, List.map_map]
      rfl
    rw [e, List.filter_cons]
    unfold FT.lsuf
    by_cases h : (c :: w) ∈ FT.fronts P
    · rw [if_pos h, if_pos ((hq _).mpr h)]
      exact ⟨_, rfl⟩
    · rw [if_neg h, if_neg fun z => h ((hq _).mp z)]
      exact first_end hq w
theorem inV_dec {p : Tx} {l : List Tx} : inV (tx p) (l.map tx) = decide (p ∈ l) := by
  by_cases h : p ∈ l
  · rw [decide_eq_true h]
    unfold inV
    rw [List.any_eq_true]
    exact ⟨tx p, List.mem_map.mpr ⟨p, h, rfl⟩, by show (SX.S p == SX.S p) = true; rw [SX.S_beq_eq]; simp⟩
  · rw [decide_eq_false h]
    exact inV_tx h
abbrev sLGraph : Stmt := top 44
theorem scLGraph : FnScope ["_law_pieces", "_law_own_here", "_law_fronts", "_law_piece", "_law_graph_here", "_law_waiting", "_law_end", "_law_letter", "_law_text", "_law_at", "_law_later"] ["_law_pieces"] (defScope sLGraph) :=
  ⟨rfl, rfl, rfl, by decide +kernel, rfl, by decide +kernel, by decide +kernel⟩
/-- .. its rows all new -/
def LGraphNew (H H' : Hp) (d : Addr) (g : Gr) : Prop := ∃ as : List (Tx × Addr), H' d = some (.dK (dk V.ref as)) ∧ LRows H' g as ∧ ∀ p ∈ as, H p.2 = none
def spLGraph : Sp := fun vs H Q _ => ∃ t P, vs = [.ref t] ∧ H t = some (.tup (P.map tx)) ∧ Pcs P ∧ ∀ d g H', FT.IsG P (ownOf P) g → Same H H' → LGraphNew H H' d g → Q (.ref d) H'
section
variable {P : Program} {w : World} {K : PySem.W.Frag} {mg : Str → Option Value} {base : Heap}
theorem ok_lgraph {f : Addr} {fd : FuncData} (F : Fun K "_law_graph" "_law_graph" sLGraph f fd) (T : Bt mg) (hO : Has P w K mg base CX0 1 sLOwn "_law_own" ["_law_pieces"] (spLOwn K)) :
    FnOk P w K mg base CX0 2 f fd ["_law_pieces"] spLGraph := by
  obtain ⟨fO, fdO, DO, GO⟩ := hO
  refine F.ok scLGraph (fun vs H Q E h => ?_) (fun cdv A outer s H vs Q E hr h => ?_)
  · obtain ⟨_, _, rfl, _⟩ := h
    rfl
  · obtain ⟨t, L, rfl, ht, pc, k⟩ := h
    have hu := hu_of hr
    have nd := scLGraph.nd
    refine ⟨_, pss_cons (ps_asg (pe_tup (pa_cons (pe_call GO hr rfl DO.g DO.F.kp DO.b .nil pass0 (pa_cons (pv 0) pa_nil)) (pa_cons (pe_lst (pa_cons pe_str pa_nil)) pa_nil)))
        (pg_tup rfl (pgs_cons (pg_name (i := 1) nd rfl (Or.inl rfl)) (pgs_cons (pg_name (i := 2) nd rfl (Or.inr rfl)) pgs_nil))))
      (pss_cons (ps_for PassesOwn.never rfl (pi_tup (pv 0)) (pg_name (i := 3) nd rfl (Or.inr rfl))
        (pss_one (ps_expr (pe_bm PySem.F.plainAttrs_list PySem.F.slot_list_extend PySem.F.type_list_extend mt_extend (pv 2) (pa_cons
          (pe_lc (own := [("_law_at", 9)]) (g := gName 9) (tt := tYes) rfl nd (pi_range2 rfl T.rng (pa_cons pe_int (pa_cons (pLen T (pv 3)) pa_nil)))
            (blkOk_by (N := ["_law_pieces", "_law_own_here", "_law_fronts", "_law_piece", "_law_graph_here", "_law_waiting", "_law_end", "_law_letter", "_law_text", "_law_at", "_law_later"]) (sc := defScope sLGraph) (by decide +kernel))
            (fun _ _ _ _ _ => pg_name (i := 9) nd rfl (Or.inl rfl)) (fun _ _ _ _ _ => pts_nil) (fun _ _ _ _ _ => pe_slice C8.sl_txt (pv 3) po_none (po_some (pv 9)))) pa_nil)))))
      (pss_cons (ps_par (by rfl) nd rfl rfl (by decide) rfl rfl (pa_cons pe_dnewK (pa_cons (pe_lst (pa_cons pe_str pa_nil)) pa_nil)) (by rfl) (i := 4) (j := 5))
      (pss_cons (ps_while PassesOwn.never (pt_cmpR op_gt (pLen T (pv 5)) pe_int (nomark _))
        (pss_cons (ps_set (i := 6) nd rfl (Or.inl rfl) (pe_bm0 PySem.F.plainAttrs_list PySem.F.slot_list_pop PySem.F.type_list_pop mt_pop (pv 5)))
        (pss_one (ps_if (pt_cmp (pc_dnotin hu (pv 6) (pv 4)))
          (pss_cons (ps_dput hu (pv 4) (pv 6) (pe_lst pa_nil) rfl)
          (pss_cons (ps_for PassesOwn.never rfl (pi_str (pv 1)) (pg_name (i := 7) nd rfl (Or.inl rfl))
            (pss_cons (ps_set (i := 8) nd rfl (Or.inr rfl) (pe_op op_add_str (pv 6) (pv 7)))
            (pss_one (ps_if (pt_not (pt_val (pAny T rfl (pe_lc (own := [("_law_piece", 3)]) (g := gName 3) (tt := tYes) rfl nd (pi_tup (pv 0))
                  (blkOk_by (N := ["_law_pieces", "_law_own_here", "_law_fronts", "_law_piece", "_law_graph_here", "_law_waiting", "_law_end", "_law_letter", "_law_text", "_law_at", "_law_later"]) (sc := defScope sLGraph) (by decide +kernel))
                  (fun _ _ _ _ _ => pg_name (i := 3) nd rfl (Or.inl rfl)) (fun _ _ _ _ _ => pts_nil) (fun _ _ _ _ _ => pe_m1 PySem.F.slot_str_endswith PySem.F.type_str_endswith mt_endswith (pv 8) (pv 3))))))
              (pss_one (ps_expr (pe_bm PySem.F.plainAttrs_list PySem.F.slot_list_append PySem.F.type_list_append mt_append (pe_dget hu (pv 4) (pv 6) (fun _ _ => rfl)) (pa_cons (pe_tup (pa_cons (pv 7) (pa_cons
                (pe_ix ix_list (pe_lc (own := [("_law_at", 9)]) (g := gName 9) (tt := tTest (tOp (rIn K false) (tSl C8.rSlX (tVar 8) (tPart (tVar 9)) tNoPart) (tVar 2))) rfl nd (pi_range1 rfl T.rng (pa_cons (pe_op op_add (pLen T (pv 8)) pe_int) pa_nil))
                  (blkOk_by (N := ["_law_pieces", "_law_own_here", "_law_fronts", "_law_piece", "_law_graph_here", "_law_waiting", "_law_end", "_law_letter", "_law_text", "_law_at", "_law_later"]) (sc := defScope sLGraph) (by decide +kernel))
                  (fun _ _ _ _ _ => pg_name (i := 9) nd rfl (Or.inl rfl)) (fun _ _ _ _ _ => pts_one (pt_cmpR op_in_seq (pe_slice C8.sl_txt (pv 8) (po_some (pv 9)) po_none) (pv 2) rfl)) (fun _ _ _ _ _ => pe_slice C8.sl_txt (pv 8) (po_some (pv 9)) po_none)) pe_int (fun _ _ => rfl)) pa_nil))) pa_nil))))
              pss_nil))))
          (pss_one (ps_expr (pe_bm PySem.F.plainAttrs_list PySem.F.slot_list_extend PySem.F.type_list_extend mt_extend (pv 5) (pa_cons
            (pe_lc (own := [("_law_letter", 7), ("_law_later", 10)]) (g := gTup K 2 (gCons (gName 7) (gCons (gName 10) gNil))) (tt := tYes) rfl nd (pi_list (pe_dget hu (pv 4) (pv 6) (fun _ _ => rfl)))
              (blkOk_by (N := ["_law_pieces", "_law_own_here", "_law_fronts", "_law_piece", "_law_graph_here", "_law_waiting", "_law_end", "_law_letter", "_law_text", "_law_at", "_law_later"]) (sc := defScope sLGraph) (by decide +kernel))
              (fun _ _ _ _ _ => pg_tup rfl (pgs_cons (pg_name (i := 7) nd rfl (Or.inl rfl)) (pgs_cons (pg_name (i := 10) nd rfl (Or.inl rfl)) pgs_nil))) (fun _ _ _ _ _ => pts_nil) (fun _ _ _ _ _ => pv 10)) pa_nil))))))
          pss_nil))))
      (pss_one (ps_ret (pv 4)))))), ?_⟩
    have oo := own_ownOf pc
    have ol := oo.len pc
    have on : (ownOf L).Nodup := oo.1.imp fun z => Nat.ne_of_lt z
    have pf := pc.few
    refine ⟨_, rfl, t, L, rfl, ht, pc, fun own H1 ho S1 => ?_⟩
    rw [own_eq pc ho]
    refine ⟨by show 1 ≤ sizeLine; exact sz1 (by omega), fun fl nfl => ⟨by show 2 ≤ sizeLine; exact sz1 (by omega), fun p0 np0 => ?_⟩⟩
    have nfl0 : H fl = none := S1.free nfl
    have nfp : fl ≠ p0 := ne_of_none upd_same np0
    refine ⟨p0, _, rfl, SqT.of upd_same, rfl, _, _, rfl, _, _, rfl, rfl, ?_⟩
    have SP : Same H (upd (upd H1 fl (.lst [V.str ""])) p0 (.tup [tx (ownOf L), .ref fl])) := Same.new (Same.new S1 nfl0) (S1.free ((Same.upd nfl).free np0))
    refine ⟨_, rfl, t, rfl, ⟨_, SqT.of (SP _ _ ht)⟩, for_walk L.length (fun i σ H' => (∃ x, σ = [some (.ref t), some (tx (ownOf L)), some (.ref fl), x, none, none, none, none, none, none, none]) ∧ Same H H' ∧
        ∃ ls : List Tx, H' fl = some (.lst (ls.map tx)) ∧ ls.length ≤ 1 + 8 * i ∧ ∀ w, w ∈ ls ↔ (w = [] ∨ ∃ p ∈ L.take i, ∃ j, 1 ≤ j ∧ j < p.length ∧ w = p.take j))
      ⟨⟨_, rfl⟩, SP, [[]], by rw [upd_ne nfp, upd_same, nil_S]; rfl, by decide, fun w => by simp⟩ (fun i σ H' hi q => ⟨_, _, SqT.of (q.2.1 _ _ ht), by rw [List.getElem?_map, List.getElem?_eq_getElem hi]; rfl⟩) (fun σ H' q => ⟨_, SqT.of (q.2.1 _ _ ht), by simp⟩) ?_ ?_⟩
    · rintro i y σ H2 H3 hi ⟨⟨x, rfl⟩, S2, ls, hls, ll, mem⟩ ⟨rfl, hy⟩
      have e := hy _ (SqT.of (S2 _ _ ht))
      rw [List.getElem?_map, List.getElem?_eq_getElem hi] at e
      obtain rfl : tx L[i] = y := Option.some.inj e
      have hm : L[i] ∈ L := List.getElem_mem hi
      have hp := pc.len _ hm
      have hi12 : i < L.length := hi
      refine ⟨_, rfl, .inl ⟨rfl, _, SqL.of hls⟩, ?_⟩
      refine ⟨_, rfl, _, L[i].length, rfl, ⟨by rw [SX.S_len]; exact sz1 (by omega), (SX.S_len _).symm⟩, 1, _, rfl, ⟨by omega, by omega, by omega, by omega⟩, fun D nD => ?_⟩
      have nfD : fl ≠ D := ne_of_none hls nD
      refine lc_all (((L[i].length : Nat) : Int) - 1).toNat (fun m => (List.range m).map fun j => tx (L[i].take (1 + j))) rfl (fun j hj => hj) (Nat.le_refl _) (fun j x H' hj y => ?_) ?_
      · obtain ⟨rfl, rfl⟩ := y
        refine ⟨rfl, _, rfl, _, rfl, _, rfl, SX.S L[i], rfl, by rw [SX.S_len]; exact sz1 (by omega), lc_end (by simp; exact big_lt (by omega)) ?_⟩
        rw [List.range_succ, List.map_append, SX.slice_to (by omega)]
        show _ = _ ++ [tx _]
        congr 3
      · refine ⟨fl, D, _, _, rfl, rfl, by rw [upd_ne nfD]; exact hls, upd_same, by simp; exact sz1 (by omega), ⟨_, rfl⟩, Same.new (Same.new S2 (S2.free nD)) nfl0, ls ++ (List.range (((L[i].length : Nat) : Int) - 1).toNat).map fun j => L[i].take (1 + j), ?_, ?_, fun w => ?_⟩
        · rw [upd_same, List.map_append, List.map_map]; rfl
        · rw [List.length_append, List.length_map, List.length_range]
          omega
        · rw [List.mem_append, mem, List.mem_map, List.take_add_one, List.getElem?_eq_getElem hi]
          constructor
          · rintro ((h | ⟨p, h1, h2⟩) | ⟨j, hj, rfl⟩)
            · exact .inl h
            · exact .inr ⟨p, List.mem_append_left _ h1, h2⟩
            · rw [List.mem_range] at hj
              exact .inr ⟨L[i], List.mem_append_right _ (List.mem_singleton.mpr rfl), 1 + j, by omega, by omega, rfl⟩
          · rintro (h | ⟨p, h1, j, j1, j2, h2⟩)
            · exact .inl (.inl h)
            · rcases List.mem_append.mp h1 with h1 | h1
              · exact .inl (.inr ⟨p, h1, j, j1, j2, h2⟩)
              · have : p = L[i] := List.mem_singleton.mp h1
                subst this
                refine .inr ⟨j - 1, List.mem_range.mpr (by omega), ?_⟩
                rw [h2]
                congr 1
                omega
    rintro σ H2 ⟨⟨x3, rfl⟩, S2, ls, hls2, ll, mem⟩
    have lmem : ∀ w, w ∈ ls ↔ w ∈ FT.fronts L := fun w => by
      rw [mem, FT.mem_fronts, List.take_length]
      constructor
      · rintro (h | ⟨p, hp, j, _, j2, h⟩)
        · exact .inl h
        · exact .inr ⟨p, hp, j, j2, h⟩
      · rintro (h | ⟨p, hp, j, j2, h⟩)
        · exact .inl h
        · by_cases c : j = 0
          · subst c
            exact .inl (by simpa using h)
          · exact .inr ⟨p, hp, j, by omega, j2, h⟩
    have lq : ∀ w, (fun w => decide (w ∈ ls)) w = true ↔ w ∈ FT.fronts L := fun w => by rw [decide_eq_true_eq]; exact lmem w
    clear mem
    have lsl : ls.length ≤ 97 := by omega
    clear ll
    intro d nd2
    refine ⟨by show 1 ≤ sizeLine; exact sz1 (by omega), fun wl nwl => ⟨_, _, rfl, ?_⟩⟩
    have nd0 : H d = none := S2.free nd2
    have nwl2 : H2 wl = none := (Same.upd nd2).free nwl
    have nwl0 : H wl = none := S2.free nwl2
    have ndw : d ≠ wl := ne_of_none upd_same nwl
    have nfd : fl ≠ d := ne_of_none hls2 nd2
    have nfw : fl ≠ wl := ne_of_none hls2 nwl2
    refine while_at (α := List Tx × Gr) (fun a σ H' => ∃ x3 x6 x7 x8 as, σ = [some (.ref t), some (tx (ownOf L)), some (.ref fl), x3, some (.ref d), some (.ref wl), x6, x7, x8, none, none] ∧ Same H H' ∧ H' fl = some (.lst (ls.map tx)) ∧ H' d = some (.dK (dk V.ref as)) ∧ LRows H' a.2 as ∧
        H' wl = some (.lst (a.1.map tx)) ∧ FT.Gone L (ownOf L) a ∧ FT.gmeas L (ownOf L) a ≤ 1000 ∧ (∀ p ∈ as, p.2 ≠ wl ∧ H p.2 = none)) (FT.gmeas L (ownOf L)) ([[]], [])
      ⟨_, _, _, _, [], rfl, Same.new (Same.new S2 nd0) nwl0, by rw [upd_ne nfw, upd_ne nfd]; exact hls2, by rw [upd_ne ndw, upd_same]; rfl, .nil, by rw [upd_same, nil_S]; rfl, .start, gmeas_few pc, fun p hp => (nomatch hp)⟩ ?_ mono_lenpos
    clear S2 hls2 nd2 nwl nwl2
    rintro ⟨wk, g⟩ σ H2 ⟨x3, x6, x7, x8, as, rfl, S2, hf2, hd2, hr2, hw2, gn, gm, hrw⟩
    have wf := wait_few gm
    refine ⟨_, rfl, _, wk.length, rfl, .inl ⟨_, SqL.of hw2, by simp⟩, _, _, rfl, rfl, _, rfl, ?_⟩
    rcases List.eq_nil_or_concat wk with e | ⟨wk', ft, e⟩
    · subst e
      exact ifF (by decide) ⟨_, rfl, k d g H2 gn S2 ⟨as, hd2, hr2, fun p hp => (hrw p hp).2⟩⟩
    rw [List.concat_eq_append] at e
    subst e
    refine ifT (by simp) ?_
    have hft : ft ∈ FT.fronts L := gn.inv.frt ft (.inr (List.mem_append_right _ (List.mem_singleton.mpr rfl)))
    have fle := front_len pc hft
    have hw2' : H2 wl = some (.lst (wk'.map tx ++ [tx ft])) := by rw [hw2, List.map_append]; rfl
    refine ⟨_, rfl, .inl ⟨rfl, _, SqL.of hw2⟩, wl, _, tx ft, rfl, rfl, hw2', by simp, ?_⟩
    rw [List.dropLast_concat]
    have hd3 : (upd H2 wl (.lst (wk'.map tx))) d = some (.dK (dk V.ref as)) := by rw [upd_ne ndw]; exact hd2
    have keys := hr2.keys
    have ntw : ∀ xs, H2 wl ≠ some (.tup xs) := fun xs z => by rw [hw2] at z; cases z
    refine ⟨_, rfl, _, rfl, d, _, rfl, dget_dk (.inl hd3) ft, _, rfl, ?_⟩
    rw [map_isSome, aget_dec, keys]
    by_cases hin : ft ∈ g.map (·.1)
    · rw [decide_eq_true hin]
      refine iteF ⟨(wk', g), ⟨_, _, _, _, as, rfl, Same.new S2 nwl0, by rw [upd_ne nfw]; exact hf2, hd3, hr2.same (fun p hp o e => by rw [upd_ne (hrw p hp).1]; exact e) (tups_upd ntw), upd_same, gn.old hin, ?_, hrw⟩, FT.gmeas_old⟩
      exact Nat.le_trans (Nat.le_of_lt FT.gmeas_old) gm
    · rw [decide_eq_false hin]
      refine iteT ⟨Nat.zero_le _, fun a na => ?_⟩
      have naw : a ≠ wl := fun z => by rw [z, upd_same] at na; cases na
      have na2 : H2 a = none := by rw [upd_ne naw] at na; exact na
      have na0 : H a = none := S2.free na2
      have nad : a ≠ d := fun z => by rw [z, hd2] at na2; cases na2
      have naf : fl ≠ a := ne_of_none hf2 na2
      have nas : ∀ p ∈ as, p.2 ≠ a := fun p hp => by
        obtain ⟨r, e⟩ := hr2.mem hp
        exact ne_of_none e na2
      have nrd : ∀ p ∈ as, p.2 ≠ d := fun p hp => by
        obtain ⟨r, e⟩ := hr2.mem hp
        exact ne_of e hd2 (by intro z; cases z)
      have glen : g.length ≤ 97 := Nat.le_trans gn.inv.len (fronts_few pc)
      have aslen : as.length ≤ 97 := by rw [hr2.len]; exact glen
      refine ⟨_, rfl, _, rfl, d, _, rfl, dput_dk (f := V.ref) (v := a) (by rw [upd_ne nad.symm]; exact hd3) (by omega) ft, ?_⟩
      rw [FT.aput_new (by rw [keys]; exact hin)]
      refine ⟨_, rfl, _, rfl, ?_⟩
      have ntd : ∀ xs, (upd (upd H2 wl (.lst (wk'.map tx))) a (.lst [])) d ≠ some (.tup xs) := fun xs z => by rw [upd_ne nad.symm, hd3] at z; cases z
      have nta : ∀ xs, (upd H2 wl (.lst (wk'.map tx))) a ≠ some (.tup xs) := fun xs z => by rw [na] at z; cases z
      refine for_walk (ownOf L).length (fun i σ H' => (∃ y3 y7 y8, σ = [some (.ref t), some (tx (ownOf L)), some (.ref fl), y3, some (.ref d), some (.ref wl), some (tx ft), y7, y8, none, none]) ∧ Same H H' ∧ H' fl = some (.lst (ls.map tx)) ∧ H' d = some (.dK (dk V.ref (as ++ [(ft, a)]))) ∧ LRows H' g as ∧
          (∃ ts : List Addr, H' a = some (.lst (ts.map V.ref)) ∧ Prs kc1 kc2 H' (FT.succs L ((ownOf L).take i) ft) ts) ∧ H' wl = some (.lst (wk'.map tx)))
        ⟨⟨_, _, _, rfl⟩, Same.new (Same.new (Same.new S2 nwl0) na0) nd0, by rw [upd_ne nfd, upd_ne naf, upd_ne nfw]; exact hf2, upd_same, ?_, ⟨[], by rw [upd_ne nad, upd_same]; rfl, by simp [FT.succs]; exact .nil⟩, by rw [upd_ne ndw.symm, upd_ne naw.symm, upd_same]⟩
        (fun i σ H' hi _ => by show i < (ownOf L).toArray.size; simpa using hi) (fun σ H' _ => by show (ownOf L).toArray.size ≤ _; simp) ?_ ?_
      · exact hr2.same (fun p hp o e => by rw [upd_ne (nrd p hp), upd_ne (nas p hp), upd_ne (hrw p hp).1]; exact e) (fun b xs e => tups_upd ntd _ _ (tups_upd nta _ _ (tups_upd ntw _ _ e)))
      · rintro i y σ H4 H5 hi ⟨⟨y3, y7, y8, rfl⟩, S4, hf4, hd4, hr4, ⟨ts, ha4, hp4⟩, hw4⟩ ⟨rfl, c, hc, rfl⟩
        have hc' : (ownOf L)[i]? = some c := by simpa using hc
        have st := succs_take (P := L) (f := ft) hc'
        have sl := FT.succs_len (P := L) (own := (ownOf L).take i) ft
        have sl2 : ((ownOf L).take i).length ≤ 8 := by rw [List.length_take]; omega
        have tl := hp4.len
        refine ⟨_, rfl, _, rfl, SX.S ft, ⟨#[c]⟩, rfl, rfl, by rw [SX.S_len]; exact sz1 (by show ft.length + 1 ≤ _; omega), ?_⟩
        have e1 : SX.S ft ++ (⟨#[c]⟩ : Str) = SX.S (ft ++ [c]) := add_S ft [c]
        rw [e1]
        have ht4 := S4 _ _ ht
        refine ⟨_, rfl, t, rfl, ⟨_, SqT.of ht4⟩, fun D new => lc_mapT L tx (fun p => .bl (p.isSuffixOf (ft ++ [c]))) (SqT.of ht4) new (by omega) (fun j p e acc hz => ?_) ?_⟩
        · refine ⟨rfl, _, rfl, ⟨_, rfl⟩, _, rfl, _, _, rfl, rfl, ?_⟩
          rw [ends_tx]
          exact lc_end hz rfl
        have SD : Same H5 (upd H5 D (.lst (L.map fun p => V.bl (p.isSuffixOf (ft ++ [c]))))) := Same.upd new
        refine ⟨D, L.map fun p => p.isSuffixOf (ft ++ [c]), rfl, SqL.of (by rw [upd_same, List.map_map]; rfl), _, rfl, ?_⟩
        rw [any_map]
        have getf : aget (as ++ [(ft, a)]) ft = some a := by
          rw [FT.aget_append, FT.aget_none.mpr (by rw [keys]; exact hin)]
          simp [aget]
        generalize upd H5 D (.lst (L.map fun p => V.bl (p.isSuffixOf (ft ++ [c])))) = H6 at SD ⊢
        have S6 := S4.trans SD
        have hf6 := SD _ _ hf4
        have hd6 := SD _ _ hd4
        have ha6 := SD _ _ ha4
        have hw6 := SD _ _ hw4
        have hr6 : LRows H6 g as := hr4.same (fun p _ o e => SD _ _ e) (tups_same SD)
        have hp6 := hp4.same (tups_same SD)
        show if (!FT.blk L (ft ++ [c])) = true then _ else _
        cases eb : FT.blk L (ft ++ [c]) with
        | true =>
          rw [if_pos eb, List.append_nil] at st
          exact iteF ⟨⟨_, _, _, rfl⟩, S6, hf6, hd6, hr6, ⟨ts, ha6, by rw [st]; exact hp6⟩, hw6⟩
        | false =>
          rw [if_neg (by rw [eb]; exact Bool.false_ne_true)] at st
          refine iteT ?_
          have tl1 : (ft ++ [c]).length ≤ 9 := by simp; omega
          refine ⟨_, rfl, _, rfl, d, .ref a, rfl, dget_some (.inl hd6) getf, .inl ⟨rfl, _, SqL.of ha6⟩, ?_⟩
          refine ⟨_, rfl, _, rfl, _, (ft ++ [c]).length, rfl, ⟨by rw [SX.S_len]; exact sz1 (by omega), (SX.S_len _).symm⟩, _, _, rfl, rfl, _, rfl, by omega, by omega, fun D2 nD2 => ?_⟩
          have nfD2 : fl ≠ D2 := ne_of_none hf6 nD2
          refine lc_acc ((ft ++ [c]).length + 1) (fun m => (((List.range m).map (ft ++ [c]).drop).filter fun w => decide (w ∈ ls)).map tx) rfl (fun j hj => by show j < (((ft ++ [c]).length : Int) + 1).toNat; omega) (by show (((ft ++ [c]).length : Int) + 1).toNat ≤ _; omega) (fun j x H' hj y => ?_) ?_
          · obtain ⟨rfl, rfl⟩ := y
            have sl1 : Txt.slice (SX.S (ft ++ [c])) (some (0 + (j : Int))) none = SX.S ((ft ++ [c]).drop j) := by
              rw [SX.slice_from (by omega)]
              congr 2
              omega
            have stp : ((List.range (j + 1)).map (ft ++ [c]).drop).filter (fun w => decide (w ∈ ls)) = ((List.range j).map (ft ++ [c]).drop).filter (fun w => decide (w ∈ ls)) ++ (if decide ((ft ++ [c]).drop j ∈ ls) = true then [(ft ++ [c]).drop j] else []) := by
              rw [List.range_succ, List.map_append, List.filter_append]
              congr 1
              simp only [List.map_cons, List.map_nil, List.filter_cons, List.filter_nil]
            have hz : ((((List.range j).map (ft ++ [c]).drop).filter fun w => decide (w ∈ ls)).map tx).length < sizeLine := by
              rw [List.length_map]
              refine big_lt (Nat.le_trans (List.length_filter_le _ _) ?_)
              rw [List.length_map, List.length_range]
              omega
            refine ⟨rfl, _, rfl, _, rfl, _, rfl, _, rfl, by rw [SX.S_len]; exact sz1 (by omega), _, rfl, fl, _, rfl, .inl (SqL.of (by rw [upd_ne nfD2]; exact hf6)), rfl, flat_tx ls, _, rfl, ?_⟩
            rw [sl1]
            show if inV (tx ((ft ++ [c]).drop j)) (ls.map tx) = true then _ else _
            rw [inV_dec]
            cases cb : decide ((ft ++ [c]).drop j ∈ ls) with
            | false =>
              rw [cb, if_neg (by decide), List.append_nil] at stp
              refine iteF ?_
              rw [stp]
            | true =>
              rw [cb, if_pos (by decide)] at stp
              refine iteT ⟨_, rfl, _, rfl, _, rfl, _, rfl, by rw [SX.S_len]; exact sz1 (by omega), ?_⟩
              rw [sl1]
              refine lc_end hz ?_
              rw [stp, List.map_append]
              rfl
          · obtain ⟨rest, efirst⟩ := first_end lq (ft ++ [c])
            rw [efirst]
            refine ⟨D2, _, 0, tx (FT.lsuf L (ft ++ [c])), rfl, rfl, SqL.of upd_same, at_of (j := 0) rfl rfl, by show 2 ≤ sizeLine; exact sz1 (by omega), fun q nq => ?_⟩
            have SQ := Same.new (o := .tup [V.str ⟨#[c]⟩, tx (FT.lsuf L (ft ++ [c]))]) (Same.upd (o := .lst ((FT.lsuf L (ft ++ [c]) :: rest).map tx)) nD2) ((Same.upd nD2).free nq)
            have hq : (upd (upd H6 D2 (.lst ((FT.lsuf L (ft ++ [c]) :: rest).map tx))) q (.tup [V.str ⟨#[c]⟩, tx (FT.lsuf L (ft ++ [c]))])) q = _ := upd_same
            have nqa : a ≠ q := ne_of_none ((Same.upd nD2) _ _ ha6) nq
            generalize upd (upd H6 D2 (.lst ((FT.lsuf L (ft ++ [c]) :: rest).map tx))) q (.tup [V.str ⟨#[c]⟩, tx (FT.lsuf L (ft ++ [c]))]) = H7 at SQ hq ⊢
            have ha7 := SQ _ _ ha6
            have nta7 : ∀ xs, H7 a ≠ some (.tup xs) := fun xs z => by rw [ha7] at z; cases z
            refine ⟨a, _, _, rfl, rfl, ha7, by rw [List.length_map]; exact big_lt (by omega), ⟨_, _, _, rfl⟩, Same.new (S6.trans SQ) na0, by rw [upd_ne naf]; exact SQ _ _ hf6, by rw [upd_ne nad.symm]; exact SQ _ _ hd6, hr6.same (fun p hp o e => by rw [upd_ne (nas p hp)]; exact SQ _ _ e) (fun b xs e => tups_upd nta7 _ _ (SQ _ _ e)),
              ⟨ts ++ [q], by rw [upd_same]; simp, ?_⟩, by rw [upd_ne naw.symm]; exact SQ _ _ hw6⟩
            rw [st]
            exact Prs.app (hp6.same fun b xs e => tups_upd nta7 _ _ (SQ _ _ e)) (.cons (tups_upd nta7 _ _ hq) .nil)
      · rintro σ H4 ⟨⟨y3, y7, y8, rfl⟩, S4, hf4, hd4, hr4, ⟨ts, ha4, hp4⟩, hw4⟩
        rw [List.take_length] at hp4
        have tl := hp4.len
        have sl := FT.succs_len (P := L) (own := ownOf L) ft
        have getf : aget (as ++ [(ft, a)]) ft = some a := by
          rw [FT.aget_append, FT.aget_none.mpr (by rw [keys]; exact hin)]
          simp [aget]
        refine ⟨_, rfl, .inl ⟨rfl, _, SqL.of hw4⟩, _, rfl, _, rfl, d, .ref a, rfl, dget_some (.inl hd4) getf, a, rfl, ⟨_, SqL.of ha4⟩, fun D nD => ?_⟩
        have nwD : wl ≠ D := ne_of_none hw4 nD
        refine lc_prs (p := 7) (q := 10) (FT.succs L (ownOf L) ft) ts (fun cb => tx cb.2) (SqL.of ha4) hp4 nD (by omega) (fun i x e acc hz => ⟨rfl, _, rfl, lc_end hz rfl⟩) ?_
        have SD := Same.upd (o := .lst ((FT.succs L (ownOf L) ft).map fun cb => tx cb.2)) nD
        have ntw4 : ∀ xs, (upd H4 D (.lst ((FT.succs L (ownOf L) ft).map fun cb => tx cb.2))) wl ≠ some (.tup xs) := fun xs z => by rw [upd_ne nwD, hw4] at z; cases z
        rw [List.length_append, List.length_singleton] at wf
        refine ⟨wl, D, _, _, rfl, rfl, by rw [upd_ne nwD]; exact hw4, upd_same, by rw [List.length_map, List.length_map]; exact sz1 (by omega), (wk' ++ (FT.succs L (ownOf L) ft).map (·.2), g ++ [(ft, FT.succs L (ownOf L) ft)]),
          ⟨_, _, _, _, as ++ [(ft, a)], rfl, Same.new (S4.trans SD) nwl0, by rw [upd_ne nfw]; exact SD _ _ hf4, by rw [upd_ne ndw]; exact SD _ _ hd4, ?_, ?_, gn.new hin, ?_, fun p hp => ?_⟩, FT.gmeas_new gn hin⟩
        · refine Paired.snoc (hr4.same (fun p hp o e => by rw [upd_ne (hrw p hp).1]; exact SD _ _ e) (fun b xs e => tups_upd ntw4 _ _ (SD _ _ e))) ⟨rfl, ts, by rw [upd_ne naw]; exact SD _ _ ha4, hp4.same fun b xs e => tups_upd ntw4 _ _ (SD _ _ e)⟩
        · rw [upd_same, List.map_append, List.map_map]; rfl
        · exact Nat.le_trans (Nat.le_of_lt (FT.gmeas_new gn hin)) gm
        · rcases List.mem_append.mp hp with hp | hp
          · exact hrw p hp
          · rw [List.mem_singleton.mp hp]; exact ⟨naw, na0⟩
end
end FTW
end
section
set_option Elab.async false
set_option linter.all false
set_option maxRecDepth 100000
set_option maxHeartbeats 4000000
/-! the law's own counts -/
namespace FTW
open PySem PySem.Spec PyProof.Rows L2 FTR
open FT (Tx Gr aget aput)
/-- the longest free text has h letters -/
def LongIs (g : Gr) (h : Int) : Prop := 0 ≤ h ∧ ∀ k : Nat, FT.total (FT.cnt g k) = 0 ↔ h < (k : Int)
theorem LongIs.one {g : Gr} {a b : Int} (ha : LongIs g a) (hb : LongIs g b) : a = b := by
  have h1 := (ha.2 (a.toNat)).symm.trans (hb.2 (a.toNat))
  have h2 := (ha.2 (b.toNat)).symm.trans (hb.2 (b.toNat))
  have := ha.1
  have := hb.1
  omega
theorem total_down {g : Gr} {k : Nat} (h : FT.total (FT.cnt g k) = 0) : FT.total (FT.cnt g (k + 1)) = 0 := by
  have n1 := FT.total_nonneg g (k + 1)
  refine Classical.byContradiction fun hn => ?_
  obtain ⟨b, f, hf, _⟩ := (FT.total_pos g (k + 1)).mp (by omega)
  have := (FT.total_pos g k).mpr ⟨f, hf⟩
  omega
theorem total_zero (g : Gr) : FT.total (FT.cnt g 0) = 1 := by simp [FT.total, FT.cnt, Nat.repeat]
/-- the first length without a free text -/
theorem first_none {g : Gr} : ∀ n : Nat, FT.total (FT.cnt g n) = 0 → ∃ j, j ≤ n ∧ FT.total (FT.cnt g j) = 0 ∧ ∀ m, m < j → FT.total (FT.cnt g m) ≠ 0
  | 0, h => ⟨0, Nat.le_refl _, h, fun m hm => absurd hm (Nat.not_lt_zero m)⟩
  | n + 1, h => by
    by_cases c : FT.total (FT.cnt g n) = 0
    · obtain ⟨j, h1, h2⟩ := first_none n c
      exact ⟨j, Nat.le_succ_of_le h1, h2⟩
    · refine ⟨n + 1, Nat.le_refl _, h, fun m hm e => c ?_⟩
      have : ∀ i, FT.total (FT.cnt g (m + i)) = 0 := fun i => by
        induction i with
        | zero => exact e
        | succ i ih => exact total_down ih
      have q := this (n - m)
      rwa [show m + (n - m) = n by omega] at q
theorem long_of {g : Gr} {j : Nat} (h : FT.total (FT.cnt g j) = 0) (hm : ∀ m, m < j → FT.total (FT.cnt g m) ≠ 0) : LongIs g ((j : Int) - 1) := by
  have j0 : j ≠ 0 := fun z => by
    subst z
    rw [total_zero] at h
    omega
  refine ⟨by omega, fun k => ⟨fun e => ?_, fun l => ?_⟩⟩
  · refine Classical.byContradiction fun hn => hm k (by omega) e
  · have : ∀ i, FT.total (FT.cnt g (j + i)) = 0 := fun i => by
      induction i with
      | zero => exact h
      | succ i ih => exact total_down ih
    have q := this (k - j)
    rwa [show j + (k - j) = k by omega] at q
abbrev sLCounts : Stmt := top 45
abbrev sLLong : Stmt := top 46
theorem scLCounts : FnScope ["_law_graph_here", "_law_many", "_law_found", "_law_ways", "_law_turn", "_law_end", "_law_later", "_law_letter", "_law_behind"] ["_law_graph_here", "_law_many"] (defScope sLCounts) :=
  ⟨rfl, rfl, rfl, by decide +kernel, rfl, by decide +kernel, by decide +kernel⟩
theorem scLLong : FnScope ["_law_graph_here", "_law_counts_here"] ["_law_graph_here"] (defScope sLLong) := ⟨rfl, rfl, rfl, by decide +kernel, rfl, by decide +kernel, by decide +kernel⟩
def cntV (g : Gr) (n : Nat) : List V := (List.range n).map fun k => V.int (FT.total (FT.cnt g k))
def spLCounts : Sp := fun vs H Q _ => ∃ (d : Addr) (n : Nat) (g : Gr) (P : List Tx) (own : List Nat), vs = [.ref d, .int (n : Int)] ∧ n ≤ 1000 ∧ LGraphAt H d g ∧ FT.Whole P own g ∧ g.length ≤ 100 ∧ own.length ≤ 8 ∧
  ∀ p H', Same H H' → H p = none → H' p = some (.lst (cntV g (n + 1))) → Q (.ref p) H'
def spLLong : Sp := fun vs H Q _ => ∃ (d : Addr) (g : Gr) (P : List Tx) (own : List Nat), vs = [.ref d] ∧ LGraphAt H d g ∧ FT.Whole P own g ∧ g.length ≤ 100 ∧ own.length ≤ 8 ∧
  ∀ H', Same H H' → (¬ Ends_ g → Q .non H') ∧ (Ends_ g → ∀ h, LongIs g h → Q (.int h) H')
section
variable {P : Program} {w : World} {K : PySem.W.Frag} {mg : Str → Option Value} {base : Heap}
theorem ok_lcounts {f : Addr} {fd : FuncData} (F : Fun K "_law_counts" "_law_counts" sLCounts f fd) (T : Bt mg) : FnOk P w K mg base CX0 1 f fd ["_law_graph_here", "_law_many"] spLCounts := by
  refine F.ok scLCounts (fun vs H Q E h => ?_) (fun cdv A outer s H vs Q E hr h => ?_)
  · obtain ⟨_, _, _, _, _, rfl, _⟩ := h
    rfl
  · obtain ⟨d, n, g, L, own, rfl, hn, ⟨as, hd, hrow⟩, W, gf, ol, k⟩ := h
    have hu := hu_of hr
    have nd := scLCounts.nd
    refine ⟨_, pss_cons (ps_asg (pe_tup (pa_cons (pe_lst pa_nil) (pa_cons (pe_disp (pps_cons pe_str pe_int pps_nil) rfl rfl (fun z => nomatch z) (by decide)) pa_nil)))
        (pg_tup rfl (pgs_cons (pg_name (i := 2) nd rfl (Or.inl rfl)) (pgs_cons (pg_name (i := 3) nd rfl (Or.inr rfl)) pgs_nil))))
      (pss_cons (ps_for PassesOwn.never rfl (pi_range1 rfl T.rng (pa_cons (pe_op op_add (pv 1) pe_int) pa_nil)) (pg_name (i := 4) nd rfl (Or.inl rfl))
        (pss_cons (ps_expr (pe_bm PySem.F.plainAttrs_list PySem.F.slot_list_append PySem.F.type_list_append mt_append (pv 2) (pa_cons
          (pe_lock (pe_callB (cr_sum rfl) (by rfl) T.sum (by decide +kernel) (pa_cons (pe_lc (own := [("_law_end", 5)]) (g := gName 5) (tt := tYes) rfl nd (pi_keys (pv 3))
            (blkOk_by (N := ["_law_graph_here", "_law_many", "_law_found", "_law_ways", "_law_turn", "_law_end", "_law_later", "_law_letter", "_law_behind"]) (sc := defScope sLCounts) (by decide +kernel))
            (fun _ _ _ _ _ => pg_name (i := 5) nd rfl (Or.inl rfl)) (fun _ _ _ _ _ => pts_nil) (fun _ _ _ _ _ => pe_dget hu (pv 3) (pv 5) (fun _ _ => rfl))) pa_nil))) pa_nil)))
        (pss_cons (ps_set (i := 6) nd rfl (Or.inl rfl) pe_dnewK)
        (pss_cons (ps_lock (ps_for PassesOwn.never rfl (pi_keys (pv 3)) (pg_name (i := 5) nd rfl (Or.inl rfl))
          (pss_one (ps_for PassesOwn.never rfl (pi_list (pe_dget hu (pv 0) (pv 5) (fun _ _ => rfl))) (pg_tup rfl (pgs_cons (pg_name (i := 7) nd rfl (Or.inl rfl)) (pgs_cons (pg_name (i := 8) nd rfl (Or.inl rfl)) pgs_nil)))
            (pss_one (ps_dput hu (pv 6) (pv 8) (pe_op op_add (pe_dget2 hu (pv 6) (pv 8) pe_int ⟨rfl, rfl, rfl, rfl⟩) (pe_dget hu (pv 3) (pv 5) (fun _ _ => rfl))) rfl))))))
        (pss_one (ps_set (i := 3) nd rfl (Or.inr rfl) (pv 6)))))))
      (pss_one (ps_ret (pv 2)))), ?_⟩
    refine ⟨Nat.zero_le _, fun fo nfo => ?_⟩
    intro c nc
    have nc0 : H c = none := (Same.upd nfo).free nc
    have nfc : fo ≠ c := ne_of_none upd_same nc
    refine ⟨upd_same, [(kx [], .int 1)], by rw [nil_S]; rfl, by decide, by show 2 ≤ sizeLine; exact sz1 (by omega), fun p0 np0 => ?_⟩
    have ncp : c ≠ p0 := ne_of_none upd_same np0
    have nfp : fo ≠ p0 := ne_of_none (show (upd (upd (upd H fo (.lst [])) c (.dK [])) c (.dK (mergeK [] [(kx [], V.int 1)]))) fo = _ by rw [upd_ne nfc, upd_ne nfc]; exact upd_same) np0
    have SP : Same H (upd (upd (upd (upd H fo (.lst [])) c (.dK [])) c (.dK (mergeK [] [(kx [], V.int 1)]))) p0 (.tup [.ref fo, .ref c])) := Same.new (Same.new (Same.new (Same.upd nfo) nc0) nc0) ((Same.new (Same.new (Same.upd nfo) nc0) nc0).free np0)
    refine ⟨p0, _, rfl, SqT.of upd_same, rfl, _, _, rfl, _, _, rfl, rfl, ?_⟩
    refine ⟨_, rfl, _, _, rfl, rfl, _, rfl, by omega, by omega, ?_⟩
    have en : ((n : Int) + 1).toNat = n + 1 := by omega
    show ∃ W : Nat → Nat → L2.St → Hp → Prop, _
    refine for_walk (n + 1) (fun i σ H' => ∃ c x4 x5 x6 x7 x8, σ = [some (.ref d), some (.int n), some (.ref fo), some (.ref c), x4, x5, x6, x7, x8] ∧ Same H H' ∧ H' fo = some (.lst (cntV g i)) ∧ H' c = some (.dK (dk V.int (FT.cnt g i))))
      ⟨c, _, _, _, _, _, rfl, SP, by rw [upd_ne nfp, upd_ne nfc, upd_ne nfc]; exact upd_same, by rw [upd_ne ncp, upd_same]; rfl⟩ (fun i σ H' hi _ => by show i < ((n : Int) + 1).toNat; omega) (fun σ H' _ => by show ((n : Int) + 1).toNat ≤ n + 1; omega) ?_ ?_
    · rintro i y σ H1 H2 hi ⟨c, x4, x5, x6, x7, x8, rfl, S2, hf2, hc2⟩ ⟨rfl, rfl⟩
      have hd2 := S2 _ _ hd
      have hrow2 : LRows H2 g as := hrow.same (fun p _ o e => S2 _ _ e) (tups_same S2)
      have kin := FT.KIn.cnt W i
      have klen := kin.len
      have nfc2 : fo ≠ c := ne_of hf2 hc2 (by intro z; cases z)
      refine ⟨_, rfl, .inl ⟨rfl, _, SqL.of hf2⟩, c, .dK (dk V.int (FT.cnt g i)), hc2, True.intro, fun od => ?_⟩
      refine ⟨_, rfl, c, od, rfl, .inl ⟨_, upd_same, fun D nD => ?_⟩⟩
      have ncD : c ≠ D := ne_of_none upd_same nD
      have nfD : fo ≠ D := ne_of_none (show (upd H2 c (.frz od (.dK (dk V.int (FT.cnt g i))))) fo = _ by rw [upd_ne nfc2]; exact hf2) nD
      have SD : Same H2 (upd (upd (upd H2 c (.frz od (.dK (dk V.int (FT.cnt g i))))) D (.lst ((FT.cnt g i).map fun p => V.int p.2))) c (.dK (dk V.int (FT.cnt g i)))) := Same.unlock hc2 (Same.upd nD)
      refine lc_all (FT.cnt g i).length (fun j => ((FT.cnt g i).take j).map fun p => V.int p.2) rfl (fun j hj => ⟨by rw [upd_ne ncD, upd_same], by rw [dk_len]; exact hj⟩) ⟨by rw [upd_ne ncD, upd_same], by rw [dk_len]; exact Nat.le_refl _⟩ (fun j x H' hj y => ?_) ?_
      · obtain ⟨rfl, kk, vv, hy, rfl⟩ := y
        obtain ⟨f1, v1, hy2, rfl, rfl⟩ := dk_get hy
        refine ⟨rfl, _, rfl, _, rfl, c, .int v1, rfl, dget_some (f := V.int) (.inr ⟨od, by rw [upd_ne ncD, upd_same]⟩) (FT.aget_mem kin.1 (List.mem_of_getElem? hy2)), lc_end (by simp; exact big_lt (by omega)) ?_⟩
        exact take_map_succ (f := fun p : Tx × Int => V.int p.2) hy2
      rw [List.take_length]
      refine ⟨D, (FT.cnt g i).map (·.2), rfl, SqL.of (by rw [upd_same, List.map_map]; rfl), by rw [upd_ne ncD, upd_same], ?_⟩
      generalize upd (upd (upd H2 c (.frz od (.dK (dk V.int (FT.cnt g i))))) D (.lst ((FT.cnt g i).map fun p => V.int p.2))) c (.dK (dk V.int (FT.cnt g i))) = H3 at SD ⊢
      have hf3 := SD _ _ hf2
      refine ⟨fo, _, _, rfl, rfl, hf3, by unfold cntV; simp; exact big_lt (by omega), ?_⟩
      have ecn : cntV g i ++ [V.int ((FT.cnt g i).map (·.2)).sum] = cntV g (i + 1) := by
        unfold cntV
        rw [List.range_succ, List.map_append]
        rfl
      rw [ecn]
      have nfo0 : H fo = none := nfo
      have hc3 := SD _ _ hc2
      have hd3 := SD _ _ hd2
      have hr3 : LRows H3 g as := hrow2.same (fun p _ o e => SD _ _ e) (tups_same SD)
      have S4 : Same H (upd H3 fo (.lst (cntV g (i + 1)))) := Same.new (S2.trans SD) nfo
      have hf4 : (upd H3 fo (.lst (cntV g (i + 1)))) fo = _ := upd_same
      have hc4 : (upd H3 fo (.lst (cntV g (i + 1)))) c = some (.dK (dk V.int (FT.cnt g i))) := by rw [upd_ne nfc2.symm]; exact hc3
      generalize upd H3 fo (.lst (cntV g (i + 1))) = H4 at S4 hf4 hc4 ⊢
      have hd4 := S4 _ _ hd
      have hr4 : LRows H4 g as := hrow.same (fun p _ o e => S4 _ _ e) (tups_same S4)
      intro l nl
      have nlc : c ≠ l := ne_of_none hc4 nl
      refine ⟨c, .dK (dk V.int (FT.cnt g i)), by rw [upd_ne nlc]; exact hc4, True.intro, fun od2 => ?_⟩
      refine ⟨_, rfl, c, od2, rfl, .inl ⟨_, upd_same, for_walk (FT.cnt g i).length (fun j σ H' => ∃ x5 x7 x8, σ = [some (.ref d), some (.int n), some (.ref fo), some (.ref c), some (.int (0 + (i : Nat))), x5, some (.ref l), x7, x8] ∧
          Same (upd H4 c (.frz od2 (.dK (dk V.int (FT.cnt g i))))) H' ∧ H' l = some (.dK (dk V.int (FT.cpart g (FT.cnt g i) j))))
        ⟨_, _, _, rfl, Same.lock (Same.upd nl), by rw [upd_ne nlc.symm, upd_same]; rfl⟩ (fun j σ H' hj q => ?_) (fun σ H' q => ?_) ?_ ?_⟩⟩
      · obtain ⟨_, _, _, _, S5, _⟩ := q
        exact ⟨S5 _ _ upd_same, by rw [dk_len]; exact hj⟩
      · obtain ⟨_, _, _, _, S5, _⟩ := q
        exact ⟨S5 _ _ upd_same, by rw [dk_len]; exact Nat.le_refl _⟩
      · rintro j y σ H5 H6 hj ⟨y5, y7, y8, rfl, S5, hl5⟩ ⟨rfl, kk, vv, hy, rfl⟩
        obtain ⟨f1, v1, hy2, rfl, rfl⟩ := dk_get hy
        have hmem := List.mem_of_getElem? hy2
        have hfg : f1 ∈ g.map (·.1) := kin.2 f1 (List.mem_map_of_mem (f := (·.1)) hmem)
        have hag := W.get hfg
        have rw1 : FT.rowOf g f1 = FT.succs L own f1 := W.row' hfg
        have rl : (FT.succs L own f1).length ≤ 8 := Nat.le_trans (FT.succs_len f1) ol
        have ncd : c ≠ d := fun z => by
          subst z
          rw [hd4] at hc4
          have := HO.dK.inj (Option.some.inj hc4)
          have e2 := hy
          rw [← this] at e2
          obtain ⟨_, _, _, _, e3⟩ := dk_get e2
          cases e3
        obtain ⟨a, ts, haa, ha4, hp4⟩ := hr4.get hag
        generalize hrr : FT.succs L own f1 = r at hag rw1 rl hp4
        have nca : c ≠ a := ne_of hc4 ha4 (by intro z; cases z)
        have ntc : ∀ xs, H4 c ≠ some (.tup xs) := fun xs z => by rw [hc4] at z; cases z
        have hc6 := S5 _ _ (show (upd H4 c (.frz od2 (.dK (dk V.int (FT.cnt g i))))) c = _ from upd_same)
        have hd6 := S5 _ _ (show (upd H4 c (.frz od2 (.dK (dk V.int (FT.cnt g i))))) d = _ by rw [upd_ne ncd.symm]; exact hd4)
        have ha6 := S5 _ _ (show (upd H4 c (.frz od2 (.dK (dk V.int (FT.cnt g i))))) a = _ by rw [upd_ne nca.symm]; exact ha4)
        have hp6 := hp4.same (fun b xs e => S5 _ _ (tups_upd (o := .frz od2 (.dK (dk V.int (FT.cnt g i)))) ntc _ _ e))
        have lB : (upd H4 c (.frz od2 (.dK (dk V.int (FT.cnt g i))))) l = none := by rw [upd_ne nlc.symm]; exact nl
        have tl := hp4.len
        refine ⟨_, rfl, _, rfl, d, .ref a, rfl, dget_some (.inl hd6) haa, a, rfl, ⟨_, SqL.of ha6⟩, for_walk ts.length (fun m σ H' => ∃ x7 x8, σ = [some (.ref d), some (.int n), some (.ref fo), some (.ref c), some (.int (0 + (i : Nat))), some (tx f1), some (.ref l), x7, x8] ∧
            Same (upd H4 c (.frz od2 (.dK (dk V.int (FT.cnt g i))))) H' ∧ (H' a = some (.lst (ts.map V.ref)) ∧ Prs kc1 kc2 H' r ts) ∧ H' l = some (.dK (dk V.int (FT.crow v1 (FT.cpart g (FT.cnt g i) j) (r.take m)))))
          ⟨_, _, rfl, S5, ⟨ha6, hp6⟩, hl5⟩ (fun m σ H' hm q => ?_) (fun σ H' q => ?_) ?_ ?_⟩
        · obtain ⟨_, _, _, _, ⟨ha, _⟩, _⟩ := q
          exact ⟨_, .ref ts[m], SqL.of ha, by rw [List.getElem?_map, List.getElem?_eq_getElem hm]; rfl⟩
        · obtain ⟨_, _, _, _, ⟨ha, _⟩, _⟩ := q
          exact ⟨_, SqL.of ha, by simp⟩
        · rintro m z σ H7 H8 hm ⟨x7, x8, rfl, S7, ⟨ha7, hp7⟩, hl7⟩ ⟨rfl, hz⟩
          have ez := hz _ (SqL.of ha7)
          rw [List.getElem?_map, List.getElem?_eq_getElem hm] at ez
          cases Option.some.inj ez
          obtain ⟨⟨c1, b1⟩, er, ht7⟩ := hp7.get (List.getElem?_eq_getElem hm)
          have hm7 := List.mem_of_getElem? er
          have hcb : b1 ∈ g.map (·.1) := W.into (f := f1) (c := c1) (by rw [rw1]; exact hm7)
          have kin2 : FT.KIn g (FT.crow v1 (FT.cpart g (FT.cnt g i) j) (r.take m)) := (FT.KIn.part W _ j).crow fun c' b' hm' => W.into (f := f1) (c := c') (by rw [rw1]; exact List.mem_of_mem_take hm')
          have hc8 := S7 _ _ (show (upd H4 c (.frz od2 (.dK (dk V.int (FT.cnt g i))))) c = _ from upd_same)
          have nlen := kin2.len
          have nla : a ≠ l := ne_of ha7 hl7 (by intro q; cases q)
          have ntl : ∀ xs, H8 l ≠ some (.tup xs) := fun xs z => by rw [hl7] at z; cases z
          refine ⟨ts[m], _, rfl, SqT.of ht7, rfl, _, _, rfl, _, _, rfl, rfl, ?_⟩
          refine ⟨_, rfl, l, rfl, .inl ⟨_, .inl hl7⟩, _, rfl, _, dget_dk (f := V.int) (.inl hl7) b1, _, rfl, _, rfl, c, .int v1, rfl, dget_some (f := V.int) (.inr ⟨od2, hc8⟩) (FT.aget_mem kin.1 hmem), ?_⟩
          refine ⟨(aget (FT.crow v1 (FT.cpart g (FT.cnt g i) j) (r.take m)) b1).getD 0, v1, ?_, rfl, ?_⟩
          · cases aget (FT.crow v1 (FT.cpart g (FT.cnt g i) j) (r.take m)) b1 <;> rfl
          · refine ⟨_, rfl, _, rfl, l, _, rfl, dput_dk (f := V.int) (v := (aget (FT.crow v1 (FT.cpart g (FT.cnt g i) j) (r.take m)) b1).getD 0 + v1) hl7 (by omega) b1, _, _, rfl, Same.new S7 lB, ⟨by rw [upd_ne nla]; exact ha7, hp7.same (tups_upd ntl)⟩, ?_⟩
            rw [upd_same, FT.crow_succ er]
            rfl
        · rintro σ H7 ⟨x7, x8, rfl, S7, ⟨ha7, hp7⟩, hl7⟩
          refine ⟨_, _, _, rfl, S7, ?_⟩
          rw [hl7, ← tl, List.take_length, FT.cpart_succ hy2, rw1]
      · rintro σ H5 ⟨y5, y7, y8, rfl, S5, hl5⟩
        have SU := Same.unlock hc4 S5
        refine ⟨S5 _ _ upd_same, _, rfl, l, _, _, _, _, _, rfl, S4.trans SU, SU _ _ hf4, ?_⟩
        rw [upd_ne nlc.symm, hl5, FT.cpart_all]
        rfl
    · rintro σ H1 ⟨c, x4, x5, x6, x7, x8, rfl, S2, hf2, hc2⟩
      exact ⟨_, rfl, k fo H1 S2 nfo hf2⟩
end
end FTW
end
section
set_option Elab.async false
set_option linter.all false
set_option maxRecDepth 100000
set_option maxHeartbeats 4000000
/-! the law's longest free text, the law's list of all -/
namespace FTW
open PySem PySem.Spec PyProof.Rows L2 FTR
open FT (Tx Gr aget aput)
theorem cntV_len (g : Gr) (n : Nat) : (cntV g n).length = n := by simp [cntV]
theorem cntV_at {g : Gr} {n j : Nat} (h : j < n) : (cntV g n)[j]? = some (.int (FT.total (FT.cnt g j))) := by
  unfold cntV
  rw [List.getElem?_map, List.getElem?_range h]
  rfl
theorem cntV_flat (g : Gr) (n : Nat) : (cntV g n).all flatV = true := by
  unfold cntV
  rw [List.all_eq_true]
  intro x hx
  obtain ⟨k, _, rfl⟩ := List.mem_map.mp hx
  rfl
abbrev sLAll : Stmt := top 48
theorem scLAll : FnScope ["_law_graph_here", "_law_most", "_law_layer", "_law_found", "_law_text", "_law_end", "_law_later", "_law_letter", "_law_behind"] ["_law_graph_here", "_law_most"] (defScope sLAll) :=
  ⟨rfl, rfl, rfl, by decide +kernel, rfl, by decide +kernel, by decide +kernel⟩
def spLAll : Sp := fun vs H Q _ => ∃ (d : Addr) (g : Gr) (P : List Tx) (own : List Nat), vs = [.ref d, .int 3000] ∧ LGraphAt H d g ∧ FT.Whole P own g ∧ g.length ≤ 100 ∧ own.length ≤ 8 ∧
  (∀ H', Same H H' → FT.FreeRes g none → Q .non H') ∧ (∀ H' l p, Same H H' → FT.FreeRes g (some l) → H' p = some (.lst (l.map tx)) → H p = none → Q (.ref p) H')
section
variable {P : Program} {w : World} {K : PySem.W.Frag} {mg : Str → Option Value} {base : Heap}
theorem ok_llong {f : Addr} {fd : FuncData} (F : Fun K "_law_longest" "_law_longest" sLLong f fd) (T : Bt mg) (hC : Has P w K mg base CX0 1 sLCounts "_law_counts" ["_law_graph_here", "_law_many"] spLCounts) : FnOk P w K mg base CX0 2 f fd ["_law_graph_here"] spLLong := by
  obtain ⟨fC, fdC, DC, GC⟩ := hC
  refine F.ok scLLong (fun vs H Q E h => ?_) (fun cdv A outer s H vs Q E hr h => ?_)
  · obtain ⟨_, _, _, _, rfl, _⟩ := h
    rfl
  · obtain ⟨d, g, L, own, rfl, hg, W, gf, ol, k⟩ := h
    have nd := scLLong.nd
    obtain ⟨as, hd, hrow⟩ := id hg
    refine ⟨_, pss_cons (ps_set (i := 1) nd rfl (Or.inl rfl) (pe_call GC hr rfl DC.g DC.F.kp DC.b .nil pass0 (pa_cons (pv 0) (pa_cons (pe_op op_add (pe_callB call_lenD (by rfl) T.len PySem.boot_len (pa_cons (pv 0) pa_nil)) pe_int) pa_nil))))
      (pss_one (ps_ret (pe_ifExp (pt_cmpR op_gt (pe_ix ix_list (pv 1) (pe_un un_neg pe_int) (fun _ _ => rfl)) pe_int (nomark _)) pe_non
        (pe_op op_sub (pe_bm PySem.F.plainAttrs_list PySem.F.slot_list_index PySem.F.type_list_index mt_index (pv 1) (pa_cons pe_int pa_nil)) pe_int)))), ?_⟩
    refine ⟨_, rfl, _, rfl, d, _, rfl, hd, _, _, rfl, rfl, d, g.length + 1, g, L, own, ?_, by omega, hg, W, gf, ol, fun p H1 S1 np hp => ?_⟩
    · rw [dk_len, hrow.len]
      exact congrArg (fun z => [V.ref d, V.int z]) (by omega)
    have el : cntV g (g.length + 1 + 1) = cntV g (g.length + 1) ++ [.int (FT.total (FT.cnt g (g.length + 1)))] := by
      unfold cntV
      rw [List.range_succ, List.map_append]
      rfl
    refine ⟨_, rfl, _, rfl, p, _, _, .int (FT.total (FT.cnt g (g.length + 1))), rfl, rfl, SqL.of hp, by rw [el]; exact atI_last _ _, _, _, rfl, rfl, _, rfl, ?_⟩
    by_cases c : Ends_ g
    · refine ifF c ?_
      have z : FT.total (FT.cnt g (g.length + 1)) = 0 := by
        have := FT.total_nonneg g (g.length + 1)
        unfold Ends_ at c
        omega
      obtain ⟨j, h1, h2, h3⟩ := first_none _ z
      refine ⟨_, rfl, .inl ⟨rfl, _, SqL.of hp⟩, p, _, .int 0, j, .int 0, rfl, rfl, SqL.of hp, rfl, cntV_flat g _, by rw [cntV_at (by omega), h2], rfl, fun m z' hm e => ?_, _, _, rfl, rfl, (k H1 S1).2 c _ (long_of h2 h3)⟩
      rw [cntV_at (by omega)] at e
      cases e
      show (FT.total (FT.cnt g m) == (0 : Int)) = false
      exact beq_false_of_ne (h3 m hm)
    · refine ifT (Classical.not_not.mp c) ((k H1 S1).1 c)
theorem ok_lall {f : Addr} {fd : FuncData} (F : Fun K "_law_all_free" "_law_all_free" sLAll f fd) (T : Bt mg) : FnOk P w K mg base CX0 1 f fd ["_law_graph_here", "_law_most"] spLAll := by
  refine F.ok scLAll (fun vs H Q E h => ?_) (fun cdv A outer s H vs Q E hr h => ?_)
  · obtain ⟨_, _, _, _, rfl, _⟩ := h
    rfl
  · obtain ⟨d, g, L, own, rfl, ⟨as, hd, hrow⟩, W, gf, ol, kN, kS⟩ := h
    have hu := hu_of hr
    have nd := scLAll.nd
    refine ⟨_, pss_cons (ps_par (by rfl) nd rfl rfl (by decide) rfl rfl (pa_cons (pe_lst (pa_cons (pe_tup (pa_cons pe_str (pa_cons pe_str pa_nil))) pa_nil)) (pa_cons (pe_lst pa_nil) pa_nil)) (by rfl) (i := 2) (j := 3))
      (pss_cons (ps_while PassesOwn.never (pt_cmpR op_gt (pLen T (pv 2)) pe_int (nomark _))
        (pss_cons (ps_expr (pe_bm PySem.F.plainAttrs_list PySem.F.slot_list_extend PySem.F.type_list_extend mt_extend (pv 3) (pa_cons
            (pe_lc (own := [("_law_text", 4), ("_law_end", 5)]) (g := gTup K 2 (gCons (gName 4) (gCons (gName 5) gNil))) (tt := tYes) rfl nd (pi_list (pv 2))
              (blkOk_by (N := ["_law_graph_here", "_law_most", "_law_layer", "_law_found", "_law_text", "_law_end", "_law_later", "_law_letter", "_law_behind"]) (sc := defScope sLAll) (by decide +kernel))
              (fun _ _ _ _ _ => pg_tup rfl (pgs_cons (pg_name (i := 4) nd rfl (Or.inl rfl)) (pgs_cons (pg_name (i := 5) nd rfl (Or.inl rfl)) pgs_nil))) (fun _ _ _ _ _ => pts_nil) (fun _ _ _ _ _ => pv 4)) pa_nil)))
        (pss_cons (ps_if (pt_cmpR op_gt (pLen T (pv 3)) (pv 1) (nomark _)) (pss_one (ps_ret pe_non)) pss_nil)
        (pss_cons (ps_set (i := 6) nd rfl (Or.inl rfl) (pe_lst pa_nil))
        (pss_cons (ps_for PassesOwn.never rfl (pi_list (pv 2)) (pg_tup rfl (pgs_cons (pg_name (i := 4) nd rfl (Or.inr rfl)) (pgs_cons (pg_name (i := 5) nd rfl (Or.inl rfl)) pgs_nil)))
          (pss_one (ps_expr (pe_bm PySem.F.plainAttrs_list PySem.F.slot_list_extend PySem.F.type_list_extend mt_extend (pv 6) (pa_cons
            (pe_lc (own := [("_law_letter", 7), ("_law_behind", 8)]) (g := gTup K 2 (gCons (gName 7) (gCons (gName 8) gNil))) (tt := tYes) rfl nd (pi_list (pe_dget hu (pv 0) (pv 5) (fun _ _ => rfl)))
              (blkOk_by (N := ["_law_graph_here", "_law_most", "_law_layer", "_law_found", "_law_text", "_law_end", "_law_later", "_law_letter", "_law_behind"]) (sc := defScope sLAll) (by decide +kernel))
              (fun _ _ _ _ _ => pg_tup rfl (pgs_cons (pg_name (i := 7) nd rfl (Or.inl rfl)) (pgs_cons (pg_name (i := 8) nd rfl (Or.inl rfl)) pgs_nil))) (fun _ _ _ _ _ => pts_nil)
              (fun _ _ _ _ _ => pe_tup (pa_cons (pe_op op_add_str (pv 4) (pv 7)) (pa_cons (pv 8) pa_nil)))) pa_nil)))))
        (pss_one (ps_set (i := 2) nd rfl (Or.inl rfl) (pv 6))))))))
      (pss_one (ps_ret (pv 3)))), ?_⟩
    refine ⟨by show 2 ≤ sizeLine; exact sz1 (by omega), fun t0 nt0 => ⟨by show 1 ≤ sizeLine; exact sz1 (by omega), fun la nla => ⟨Nat.zero_le _, fun fo nfo => ⟨_, _, rfl, ?_⟩⟩⟩⟩
    have nla0 : H la = none := (Same.upd nt0).free nla
    have ntl : t0 ≠ la := ne_of_none upd_same nla
    have nlf : la ≠ fo := ne_of_none upd_same nfo
    have ntf : t0 ≠ fo := ne_of_none (show (upd (upd H t0 (.tup [V.str "", V.str ""])) la (.lst [.ref t0])) t0 = _ by rw [upd_ne ntl]; exact upd_same) nfo
    have nfo0 : H fo = none := (Same.new (Same.upd nt0) nla0).free nfo
    refine while_at (α := Nat) (fun kk σ H' => ∃ la ts x4 x5 x6, σ = [some (.ref d), some (.int 3000), some (.ref la), some (.ref fo), x4, x5, x6, none, none] ∧ Same H H' ∧ H' fo = some (.lst ((FT.alls g kk).map tx)) ∧ H' la = some (.lst (ts.map V.ref)) ∧
        Prs (fun tf : Tx × Tx => tx tf.1) (fun tf => tx tf.2) H' (FT.lay g kk) ts ∧ (FT.alls g kk).length ≤ 3000 ∧ kk ≤ (FT.alls g kk).length ∧ la ≠ fo ∧ (FT.lay g kk).length ≤ 30000)
      (fun kk => (3001 - (FT.alls g kk).length) * 2 + if FT.lay g kk = [] then 0 else 1) 0
      ⟨la, [t0], _, _, _, rfl, Same.new (Same.new (Same.upd nt0) nla0) nfo0, upd_same, by rw [upd_ne nlf, upd_same]; rfl, .cons (by rw [upd_ne ntf, upd_ne ntl, upd_same, nil_S]) .nil, Nat.zero_le _, Nat.zero_le _, nlf, by show 1 ≤ 30000; omega⟩ ?_ mono_lenpos
    rintro kk σ H3 ⟨la, ts, x4, x5, x6, rfl, S3, hfo, hla, hp, lyf, lyd, nlf, lyl⟩
    have an := congrArg List.length (alls_next g kk)
    rw [List.length_append, List.length_map] at an
    have tl := hp.len
    refine ⟨_, rfl, _, ts.length, rfl, .inl ⟨_, SqL.of hla, by simp⟩, _, _, rfl, rfl, _, rfl, ?_⟩
    by_cases e : FT.lay g kk = []
    · rw [e] at tl
      exact ifF (by simp at tl; omega) ⟨_, rfl, kS H3 _ fo S3 ⟨kk, e, rfl, lyf⟩ hfo nfo0⟩
    have lp : 0 < (FT.lay g kk).length := List.length_pos_iff.mpr e
    refine ifT (by omega) ⟨_, rfl, .inl ⟨rfl, _, SqL.of hfo⟩, ?_⟩
    refine ⟨_, rfl, la, rfl, ⟨_, SqL.of hla⟩, fun D nD => ?_⟩
    have nfD : fo ≠ D := ne_of_none hfo nD
    have naD : la ≠ D := ne_of_none hla nD
    refine lc_prs (p := 4) (q := 5) (FT.lay g kk) ts (fun tf => tx tf.1) (SqL.of hla) hp nD (by omega) (fun i a e acc hz => ⟨rfl, _, rfl, lc_end hz rfl⟩) ?_
    have fal : (FT.alls g kk).map tx ++ (FT.lay g kk).map (fun tf => tx tf.1) = (FT.alls g (kk + 1)).map tx := by
      rw [alls_next g kk, List.map_append, List.map_map]; rfl
    refine ⟨fo, D, _, _, rfl, rfl, by rw [upd_ne nfD]; exact hfo, upd_same, by rw [List.length_map, List.length_map]; exact sz1 (by omega), ?_⟩
    rw [fal]
    have SD : Same H3 (upd H3 D (.lst ((FT.lay g kk).map fun tf => tx tf.1))) := Same.upd nD
    have ntf : ∀ xs, (upd H3 D (.lst ((FT.lay g kk).map fun tf => tx tf.1))) fo ≠ some (.tup xs) := fun xs z => by rw [upd_ne nfD, hfo] at z; cases z
    have S4 : Same H (upd (upd H3 D (.lst ((FT.lay g kk).map fun tf => tx tf.1))) fo (.lst ((FT.alls g (kk + 1)).map tx))) := Same.new (S3.trans SD) nfo0
    have hp4 : Prs (fun tf : Tx × Tx => tx tf.1) (fun tf => tx tf.2) (upd (upd H3 D (.lst ((FT.lay g kk).map fun tf => tx tf.1))) fo (.lst ((FT.alls g (kk + 1)).map tx))) (FT.lay g kk) ts := hp.same fun b xs e => tups_upd ntf _ _ (SD _ _ e)
    have hla4 : (upd (upd H3 D (.lst ((FT.lay g kk).map fun tf => tx tf.1))) fo (.lst ((FT.alls g (kk + 1)).map tx))) la = some (.lst (ts.map V.ref)) := by rw [upd_ne nlf, upd_ne naD]; exact hla
    have hfo4 : (upd (upd H3 D (.lst ((FT.lay g kk).map fun tf => tx tf.1))) fo (.lst ((FT.alls g (kk + 1)).map tx))) fo = _ := upd_same
    generalize upd (upd H3 D (.lst ((FT.lay g kk).map fun tf => tx tf.1))) fo (.lst ((FT.alls g (kk + 1)).map tx)) = H4 at S4 hp4 hla4 hfo4 ⊢
    refine ⟨_, rfl, _, (FT.alls g (kk + 1)).length, rfl, .inl ⟨_, SqL.of hfo4, by simp⟩, _, rfl, _, _, rfl, rfl, _, rfl, ?_⟩
    by_cases big : 3000 < (FT.alls g (kk + 1)).length
    · exact ifT (by omega) (kN H4 S4 ⟨_, big⟩)
    refine ifF (by omega) ⟨Nat.zero_le _, fun le nle => ?_⟩
    have nfe : fo ≠ le := ne_of_none hfo4 nle
    have nae : la ≠ le := ne_of_none hla4 nle
    refine ⟨_, rfl, la, rfl, ⟨_, SqL.of (by rw [upd_ne nae]; exact hla4)⟩, for_walk ts.length (fun i σ H' => ∃ us x4 x5, σ = [some (.ref d), some (.int 3000), some (.ref la), some (.ref fo), x4, x5, some (.ref le), none, none] ∧ Same H4 H' ∧ H' le = some (.lst (us.map V.ref)) ∧
        Prs (fun tf : Tx × Tx => tx tf.1) (fun tf => tx tf.2) H' (FT.latr g ((FT.lay g kk).take i)) us)
      ⟨[], _, _, rfl, Same.upd nle, upd_same, by rw [List.take_zero]; exact .nil⟩ (fun i σ H' hi q => ?_) (fun σ H' q => ?_) ?_ ?_⟩
    · obtain ⟨_, _, _, _, S5, _⟩ := q
      exact ⟨_, .ref ts[i], SqL.of (S5 _ _ hla4), by rw [List.getElem?_map, List.getElem?_eq_getElem hi]; rfl⟩
    · obtain ⟨_, _, _, _, S5, _⟩ := q
      exact ⟨_, SqL.of (S5 _ _ hla4), by simp⟩
    · rintro i y σ H5 H6 hi ⟨us, y4, y5, rfl, S5, hle, hpu⟩ ⟨rfl, hy⟩
      have ey := hy _ (SqL.of (S5 _ _ hla4))
      rw [List.getElem?_map, List.getElem?_eq_getElem hi] at ey
      cases Option.some.inj ey
      obtain ⟨⟨tt, ff⟩, elay, ht⟩ := hp4.get (List.getElem?_eq_getElem hi)
      obtain ⟨hrun, hlen⟩ := FT.lay_run W kk tt ff (List.mem_of_getElem? elay)
      have hfg := W.run hrun
      have hag := W.get hfg
      have rw1 : FT.rowOf g ff = FT.succs L own ff := W.row' hfg
      have rl : (FT.succs L own ff).length ≤ 8 := Nat.le_trans (FT.succs_len ff) ol
      have S46 := S4.trans S5
      obtain ⟨a, rs, haa, ha6, hpr⟩ := (hrow.same (fun p _ o e => S46 _ _ e) (tups_same S46)).get hag
      have lat : FT.latr g ((FT.lay g kk).take (i + 1)) = FT.latr g ((FT.lay g kk).take i) ++ (FT.succs L own ff).map fun cb => (tt ++ [cb.1], cb.2) := by
        unfold FT.latr
        rw [List.take_add_one, elay, List.flatMap_append, ← rw1]
        simp
      generalize FT.succs L own ff = r at hag rw1 rl hpr lat
      have hd6 := S46 _ _ hd
      have rsl := hpr.len
      refine ⟨ts[i], _, rfl, SqT.of (S5 _ _ ht), rfl, _, _, rfl, _, _, rfl, rfl, ?_⟩
      refine ⟨_, rfl, .inl ⟨rfl, _, SqL.of hle⟩, ?_⟩
      refine ⟨_, rfl, _, rfl, d, .ref a, rfl, dget_some (.inl hd6) haa, a, rfl, ⟨_, SqL.of ha6⟩, fun D nD => ?_⟩
      refine lc_allW r.length (fun m H' => Same H6 H' ∧ ∃ vs, H' D = some (.lst (vs.map V.ref)) ∧ Prs (fun tf : Tx × Tx => tx tf.1) (fun tf => tx tf.2) H' ((r.take m).map fun cb => (tt ++ [cb.1], cb.2)) vs) ⟨Same.upd nD, [], upd_same, .nil⟩
        (fun m H' hm q => ⟨_, .ref (rs[m]'(by omega)), SqL.of (q.1 _ _ ha6), by rw [List.getElem?_map, List.getElem?_eq_getElem (by omega)]; rfl⟩) (fun H' q => ⟨_, SqL.of (q.1 _ _ ha6), by simp; omega⟩) (fun m x H8 H9 hm q y => ?_) (fun H8 q => ?_)
        (fun x σ H Q Q' k ⟨a, xs, h1, h2, h3, v, r, h4, w, r2, h5, h6, h7⟩ => ⟨a, xs, h1, h2, h3, v, r, h4, w, r2, h5, h6, k _ _ h7⟩)
      · obtain ⟨rfl, y⟩ := y
        obtain ⟨S8, vs, hD, hpv⟩ := q
        have ex := y _ (SqL.of (S8 _ _ ha6))
        have er := List.getElem?_eq_getElem hm
        obtain ⟨q0, eq0, hq0⟩ := hpr.get' er
        rw [List.getElem?_map, eq0] at ex
        cases Option.some.inj ex
        have vl := hpv.len
        rw [List.length_map, List.length_take] at vl
        refine ⟨q0, _, rfl, SqT.of (S8 _ _ hq0), rfl, _, _, rfl, _, _, rfl, rfl, rfl, ?_⟩
        refine ⟨_, rfl, _, rfl, SX.S tt, SX.S [r[m].1], rfl, rfl, by rw [SX.S_len, SX.S_len]; exact sz1 (by simp; omega), _, rfl, by show 2 ≤ sizeLine; exact sz1 (by omega), fun t nt => ?_⟩
        have nDt : D ≠ t := ne_of_none hD nt
        refine ⟨_, by rw [upd_ne nDt]; exact hD, by rw [List.length_map]; exact big_lt (by omega), Same.new (Same.new S8 (S8.free nt)) nD, vs ++ [t], by rw [upd_same]; simp, ?_⟩
        rw [take_map_succ (f := fun cb : Nat × Tx => (tt ++ [cb.1], cb.2)) er]
        refine Prs.app (hpv.same fun z xs ez => ?_) (.cons ?_ .nil)
        · rw [upd_ne (ne_of ez hD (by intro q; cases q)), upd_ne (ne_of_none ez nt)]
          exact ez
        · rw [upd_ne nDt.symm, upd_same]
          exact congrArg (fun z => some (HO.tup [V.str z, tx r[m].2])) (add_S tt [r[m].1])
      · obtain ⟨S8, vs, hD, hpv⟩ := q
        rw [List.take_length] at hpv
        have ul := hpu.len
        have vl := hpv.len
        rw [List.length_map] at vl
        have ll := latr_len (n := 8) (fun f => Nat.le_trans (row_len W f) ol) ((FT.lay g kk).take i)
        rw [List.length_take] at ll
        have hle8 := S8 _ _ hle
        have l30 : (FT.lay g kk).length ≤ 3000 := by omega
        refine ⟨le, D, _, _, rfl, rfl, hle8, hD, ?_, us ++ vs, _, _, rfl, Same.new (S5.trans S8) nle, by rw [upd_same]; simp, ?_⟩
        · rw [List.length_map, List.length_map]
          exact sz1 (by omega)
        · rw [lat]
          have nt : ∀ xs, H8 le ≠ some (.tup xs) := fun xs z => by rw [hle8] at z; cases z
          exact (hpu.same (fun z xs ez => tups_upd nt _ _ (S8 _ _ ez))).app (hpv.same (tups_upd nt))
    · rintro σ H5 ⟨us, y4, y5, rfl, S5, hle, hpu⟩
      rw [← tl, List.take_length] at hpu
      have ll := latr_len (n := 8) (fun f => Nat.le_trans (row_len W f) ol) (FT.lay g kk)
      have l2 : (FT.lay g (kk + 1)).length ≤ (FT.lay g kk).length * 8 := by rw [FT.lay_succ]; exact ll
      refine ⟨_, rfl, kk + 1, ⟨le, us, _, _, _, rfl, S4.trans S5, S5 _ _ hfo4, hle, hpu, by omega, by omega, nfe.symm, by omega⟩, ?_⟩
      show (3001 - (FT.alls g (kk + 1)).length) * 2 + (if FT.lay g (kk + 1) = [] then 0 else 1) < (3001 - (FT.alls g kk).length) * 2 + (if FT.lay g kk = [] then 0 else 1)
      rw [if_neg e]
      split <;> omega
end
end FTW
end
section
set_option Elab.async false
set_option linter.all false
set_option maxRecDepth 100000
set_option maxHeartbeats 4000000
/-! the law's bag of numbers -/
namespace FTW
open PySem PySem.Spec PyProof.Rows L2 FTR
open FT (Tx Gr aget aput)
/-- a bag: some numbers, and a list of great ones -/
def BagAt (H : Hp) (bg gr : Addr) : Prop := gr ≠ bg ∧ (∃ (z c : Int) (al : V), H bg = some (.lst [.int z, .int c, .ref gr, al]) ∧ (al = .non ∨ ∃ n : Int, al = .int n)) ∧ ∃ gs : List Int, H gr = some (.lst (gs.map V.int))
/-- all but the bag is as it was -/
def SameX (bg gr : Addr) (H H' : Hp) : Prop := ∀ b o, b ≠ bg → b ≠ gr → H b = some o → H' b = some o
theorem SameX.refl (bg gr : Addr) (H : Hp) : SameX bg gr H H := fun _ _ _ _ e => e
theorem SameX.of {bg gr : Addr} {H H' : Hp} (s : Same H H') : SameX bg gr H H' := fun b o _ _ e => s b o e
theorem SameX.trans {bg gr : Addr} {H H1 H2 : Hp} (a : SameX bg gr H H1) (b : SameX bg gr H1 H2) : SameX bg gr H H2 := fun c o h1 h2 e => b c o h1 h2 (a c o h1 h2 e)
theorem BagAt.ne {H : Hp} {bg gr t : Addr} (h : BagAt H bg gr) (n : H t = none) : t ≠ bg ∧ t ≠ gr := by
  obtain ⟨_, ⟨_, _, _, h1, _⟩, _, h2⟩ := h
  exact ⟨(ne_of_none h1 n).symm, (ne_of_none h2 n).symm⟩
theorem BagAt.tup {H : Hp} {bg gr t : Addr} {xs : List V} (h : BagAt H bg gr) (n : H t = some (.tup xs)) : t ≠ bg ∧ t ≠ gr := by
  obtain ⟨_, ⟨_, _, _, h1, _⟩, _, h2⟩ := h
  exact ⟨ne_of n h1 (by intro z; cases z), ne_of n h2 (by intro z; cases z)⟩
theorem BagAt.same {H H' : Hp} {bg gr : Addr} (s : Same H H') (h : BagAt H bg gr) : BagAt H' bg gr := by
  obtain ⟨h0, ⟨z, c, al, h1, h2⟩, gs, h3⟩ := h
  exact ⟨h0, ⟨z, c, al, s _ _ h1, h2⟩, gs, s _ _ h3⟩
theorem BagAt.upd {H : Hp} {bg gr a : Addr} {o : HO} (h : BagAt H bg gr) (n1 : a ≠ bg) (n2 : a ≠ gr) : BagAt (L2.upd H a o) bg gr := by
  obtain ⟨h0, ⟨z, c, al, h1, h2⟩, gs, h3⟩ := h
  exact ⟨h0, ⟨z, c, al, by rw [upd_ne n1.symm]; exact h1, h2⟩, gs, by rw [upd_ne n2.symm]; exact h3⟩
theorem SameX.tup {bg gr t : Addr} {H H' : Hp} {xs : List V} (s : SameX bg gr H H') (b : BagAt H bg gr) (e : H t = some (.tup xs)) : H' t = some (.tup xs) := s _ _ (b.tup e).1 (b.tup e).2 e
theorem SameX.upd {bg gr a : Addr} {H H' : Hp} {o : HO} (s : SameX bg gr H H') (n : H a = none) : SameX bg gr H (L2.upd H' a o) := fun b u h1 h2 e => by
  rw [upd_ne (ne_of_none e n)]
  exact s b u h1 h2 e
abbrev sLBag : Stmt := top 36
abbrev sLPick : Stmt := top 37
abbrev sLSome : Stmt := top 38
theorem scLBag : FnScope ["_law_script", "_law_seed", "_law_cell", "_law_great", "_law_always"] ["_law_script"] (defScope sLBag) := ⟨rfl, rfl, rfl, by decide +kernel, rfl, by decide +kernel, by decide +kernel⟩
theorem scLPick : FnScope ["_law_bag_here", "_law_many", "_law_great", "_law_digit", "_law_number"] ["_law_bag_here", "_law_many"] (defScope sLPick) := ⟨rfl, rfl, rfl, by decide +kernel, rfl, by decide +kernel, by decide +kernel⟩
theorem scLSome : FnScope ["_law_bag_here", "_law_things"] ["_law_bag_here", "_law_things"] (defScope sLSome) := ⟨rfl, rfl, rfl, by decide +kernel, rfl, by decide +kernel, by decide +kernel⟩
def spLBag (K : PySem.W.Frag) : Sp := fun vs H Q _ => ∃ (a : Addr) (ns : List Int), vs = [.ref a] ∧ SqL K H a (ns.map V.int) ∧ ns.length ≤ 63 ∧ ∀ bg gr H', Same H H' → BagAt H' bg gr → H bg = none → H gr = none → Q (.ref bg) H'
def spLPick : Sp := fun vs H Q _ => ∃ (bg gr : Addr) (m : Int), vs = [.ref bg, .int m] ∧ BagAt H bg gr ∧ 0 < m ∧ m ≤ 10000 ∧ ∀ r H', 0 ≤ r → r < m → BagAt H' bg gr → SameX bg gr H H' → Q (.int r) H'
def spLSome (K : PySem.W.Frag) : Sp := fun vs H Q _ => ∃ (bg gr t : Addr) (xs : List V), vs = [.ref bg, .ref t] ∧ BagAt H bg gr ∧ t ≠ bg ∧ t ≠ gr ∧ ((H t = some (.lst xs)) ∨ H t = some (.tup xs)) ∧ xs ≠ [] ∧ xs.length ≤ 1000 ∧ ∀ x H', x ∈ xs → BagAt H' bg gr → SameX bg gr H H' → Q x H'
/-! int(x), abs(x) -/
section
variable {X : Cx} {e : Expr} {te : TE} {p pos : Pos}
def rInt1 : List V → Hp → VK → Prop := fun xs H Q => ∃ n, xs = [.int n] ∧ Q (.int n) H
theorem pInt (T : Bt X.mg) (h : PE X e te) (gl : Gl X "int" := by rfl) (hs : starEach [e] X.env = (false, eval e X.env) :: starEach [] X.env := by rfl) :
    PE X (.Call (.Name "int" p) [e] [] pos) (tCB rInt1 (tCons te tNil)) := by
  have c : CallR X (.type "int") rInt1 := by
    intro pins s σ H xs us Q I r hh
    obtain ⟨n, e, q⟩ := hh
    exact call_int1 pins s σ H xs us Q I r (.inl ⟨n, e, q⟩)
  exact pe_callTy (he := hs) c gl T.int PyProof.Rows.boot_int (pa_cons (hs := hs) h pa_nil)
def rAbs1 : List V → Hp → VK → Prop := fun xs H Q => ∃ n, xs = [.int n] ∧ Q (.int (if n < 0 then -n else n)) H
theorem pAbs (T : Bt X.mg) (h : PE X e te) (gl : Gl X "abs" := by rfl) (hs : starEach [e] X.env = (false, eval e X.env) :: starEach [] X.env := by rfl) :
    PE X (.Call (.Name "abs" p) [e] [] pos) (tCB rAbs1 (tCons te tNil)) := by
  have c : CallR X (.builtin "abs") rAbs1 := by
    intro pins s σ H xs us Q I r hh
    obtain ⟨n, e, q⟩ := hh
    exact call_abs pins s σ H xs us Q I r ⟨n, e, q⟩
  exact pe_callB (he := hs) c gl T.abs (by decide +kernel) (pa_cons (hs := hs) h pa_nil)
end
theorem cut_all {ns : List Int} (h : ns.length ≤ 63) : cutV (ns.map V.int) none (some 63) = ns.map V.int := by
  unfold cutV
  have e1 : HT.sIx (ns.map V.int).length 0 none = 0 := rfl
  have e2 : HT.sIx (ns.map V.int).length (ns.map V.int).length (some 63) = ns.length := by
    rw [show (63 : Int) = ((63 : Nat) : Int) from rfl, sIx_nat, List.length_map]
    omega
  rw [e1, e2, List.drop_zero, Nat.sub_zero]
  exact List.take_of_length_le (by simp)
section
variable {P : Program} {w : World} {K : PySem.W.Frag} {mg : Str → Option Value} {base : Heap}
theorem ok_lbag {f : Addr} {fd : FuncData} (F : Fun K "_law_bag" "_law_bag" sLBag f fd) (T : Bt mg) : FnOk P w K mg base CX0 1 f fd ["_law_script"] (spLBag K) := by
  refine F.ok scLBag (fun vs H Q E h => ?_) (fun cdv A outer s H vs Q E hr h => ?_)
  · obtain ⟨_, _, rfl, _⟩ := h
    rfl
  · obtain ⟨a, ns, rfl, hs, hl, k⟩ := h
    have nd := scLBag.nd
    refine ⟨_, pss_cons (ps_set (i := 1) nd rfl (Or.inl rfl) (pe_op op_add pe_int (pLen T (pv 0))))
      (pss_cons (ps_for PassesOwn.never rfl (pi_list (pe_slice sl_list (pv 0) po_none (po_some pe_int))) (pg_name (i := 2) nd rfl (Or.inl rfl))
        (pss_one (ps_set (i := 1) nd rfl (Or.inl rfl) (pe_op op_mod (pInt T (pe_op op_add (pe_op op_add (pe_op op_mul (pv 1) pe_int) (pe_op op_mod (pInt T (pv 2)) pe_int)) pe_int)) pe_int))))
      (pss_cons (ps_setLc (i := 3) (own := [("_law_cell", 2)]) (g := gName 2) (by rfl) nd rfl rfl (sw_true rfl rfl rfl (by decide +kernel)) (pi_list (pe_slice sl_list (pv 0) po_none (po_some pe_int)))
          (blkOk_by (N := ["_law_script", "_law_seed", "_law_cell", "_law_great", "_law_always"]) (sc := defScope sLBag) (by decide +kernel)) (fun _ _ _ _ _ => pg_name (i := 2) nd rfl (Or.inl rfl))
          (fun _ _ _ _ _ => pts_one (pt_cmpR op_ge (pAbs T (pInt T (pv 2))) (pe_op op_pow pe_int pe_int) (nomark _))) (fun _ _ _ _ _ => pAbs T (pInt T (pv 2))))
      (pss_cons (ps_set (i := 4) nd rfl (Or.inl rfl) pe_non)
      (pss_cons (ps_if (PW.pt (pw_and (pt_cmpR op_lt (pLen T (pv 0)) pe_int (nomark _)) (pw_and1 (pt_cmpR op_eq (pLen T (pv 3)) pe_int (nomark _)))))
        (pss_one (ps_set (i := 4) nd rfl (Or.inl rfl) (pAbs T (pe_callB (cr_sum rfl) (by rfl) T.sum (by decide +kernel) (pa_cons (pe_lc (own := [("_law_cell", 2)]) (g := gName 2) (tt := tYes) rfl nd (pi_list (pv 0))
          (blkOk_by (N := ["_law_script", "_law_seed", "_law_cell", "_law_great", "_law_always"]) (sc := defScope sLBag) (by decide +kernel)) (fun _ _ _ _ _ => pg_name (i := 2) nd rfl (Or.inl rfl)) (fun _ _ _ _ _ => pts_nil) (fun _ _ _ _ _ => pInt T (pv 2))) pa_nil)))))
        pss_nil)
      (pss_one (ps_ret (pe_lst (pa_cons (pv 1) (pa_cons pe_int (pa_cons (pv 3) (pa_cons (pv 4) pa_nil))))))))))), ?_⟩
    refine ⟨_, rfl, _, ns.length, rfl, .inl ⟨_, hs, by simp⟩, _, _, rfl, rfl, ?_⟩
    refine ⟨_, rfl, _, rfl, a, _, rfl, hs, fun p np => ?_⟩
    rw [cut_all hl]
    refine ⟨p, rfl, ⟨_, SqL.of upd_same⟩, for_walk ns.length (fun i σ H' => (∃ z x, σ = [some (.ref a), some (.int z), x, none, none]) ∧ H' = upd H p (.lst (ns.map V.int))) ⟨⟨_, _, rfl⟩, rfl⟩ (fun i σ H' hi q => ?_) (fun σ H' q => ?_) ?_ ?_⟩
    · rw [q.2]
      exact ⟨_, .int ns[i], SqL.of upd_same, by rw [List.getElem?_map, List.getElem?_eq_getElem hi]; rfl⟩
    · rw [q.2]
      exact ⟨_, SqL.of upd_same, by simp⟩
    · rintro i y σ H1 H2 hi ⟨⟨z, x, rfl⟩, rfl⟩ ⟨rfl, hy⟩
      have e := hy _ (SqL.of upd_same)
      rw [List.getElem?_map, List.getElem?_eq_getElem hi] at e
      cases Option.some.inj e
      exact ⟨_, rfl, _, _, rfl, rfl, .inr ⟨by decide, by decide⟩, _, rfl, _, rfl, _, _, rfl, rfl, (by show (0 : Int) < 1000003; decide), _, _, rfl, rfl, _, _, rfl, rfl, _, rfl, _, _, rfl, rfl, (by show (0 : Int) < 2147483647; decide), ⟨_, _, rfl⟩, rfl⟩
    rintro σ H1 ⟨⟨z, x, rfl⟩, rfl⟩
    have S1 : Same H (upd H p (.lst (ns.map V.int))) := Same.upd np
    have hs1 := S1.seq hs
    generalize upd H p (.lst (ns.map V.int)) = H1 at S1 hs1 ⊢
    refine ⟨_, rfl, _, rfl, a, _, rfl, hs1, fun p2 np2 => ?_⟩
    rw [cut_all hl]
    refine ⟨p2, rfl, ⟨_, SqL.of upd_same⟩, fun D nD => ?_⟩
    have npD : p2 ≠ D := ne_of_none upd_same nD
    have SD : Same H1 (upd H1 p2 (.lst (ns.map V.int))) := Same.upd np2
    have nD1 : H1 D = none := SD.free nD
    have nD0 : H D = none := S1.free nD1
    refine lc_acc ns.length (fun i => ((ns.take i).filter fun n => decide ((10 : Int) ^ (18 : Int).toNat ≤ if n < 0 then -n else n)).map fun n => V.int (if n < 0 then -n else n)) rfl
      (fun i hi => ⟨_, .int ns[i], SqL.of (by rw [upd_ne npD, upd_same]), by rw [List.getElem?_map, List.getElem?_eq_getElem hi]; rfl⟩) ⟨_, SqL.of (by rw [upd_ne npD, upd_same]), by simp⟩ (fun i y H' hi q => ?_) ?_
    · obtain ⟨rfl, hy⟩ := q
      have e := hy _ (SqL.of (by rw [upd_ne npD, upd_same]))
      have er := List.getElem?_eq_getElem hi
      rw [List.getElem?_map, er] at e
      cases Option.some.inj e
      have st : (ns.take (i + 1)).filter (fun n => decide ((10 : Int) ^ (18 : Int).toNat ≤ if n < 0 then -n else n)) = (ns.take i).filter (fun n => decide ((10 : Int) ^ (18 : Int).toNat ≤ if n < 0 then -n else n)) ++
          (if decide ((10 : Int) ^ (18 : Int).toNat ≤ if ns[i] < 0 then -ns[i] else ns[i]) = true then [ns[i]] else []) := by
        rw [List.take_add_one, er, List.filter_append]
        congr 1
        simp only [Option.toList, List.filter_cons, List.filter_nil]
      have hz : (((ns.take i).filter fun n => decide ((10 : Int) ^ (18 : Int).toNat ≤ if n < 0 then -n else n)).map fun n => V.int (if n < 0 then -n else n)).length < sizeLine := by
        rw [List.length_map]
        refine big_lt (Nat.le_trans (List.length_filter_le _ _) ?_)
        rw [List.length_take]
        omega
      refine ⟨rfl, _, rfl, _, rfl, _, rfl, _, _, rfl, rfl, ⟨by decide, by decide, by decide⟩, _, _, rfl, rfl, _, rfl, ?_⟩
      cases cb : decide ((10 : Int) ^ (18 : Int).toNat ≤ if ns[i] < 0 then -ns[i] else ns[i]) with
      | false =>
        rw [cb, if_neg (by decide), List.append_nil] at st
        refine iteF ?_
        rw [st]
      | true =>
        rw [cb, if_pos (by decide)] at st
        refine iteT ⟨_, rfl, _, rfl, _, rfl, lc_end hz ?_⟩
        rw [st, List.map_append]
        rfl
    rw [List.take_length]
    generalize ns.filter (fun n => decide ((10 : Int) ^ (18 : Int).toNat ≤ if n < 0 then -n else n)) = gs
    have S2 : Same H (upd (upd H1 p2 (.lst (ns.map V.int))) D (.lst (gs.map fun n => V.int (if n < 0 then -n else n)))) := Same.new (S1.trans SD) nD0
    have hD2 : (upd (upd H1 p2 (.lst (ns.map V.int))) D (.lst (gs.map fun n => V.int (if n < 0 then -n else n)))) D = _ := upd_same
    generalize upd (upd H1 p2 (.lst (ns.map V.int))) D (.lst (gs.map fun n => V.int (if n < 0 then -n else n))) = H2 at S2 hD2 ⊢
    have hs2 := S2.seq hs
    have fin : ∀ (al : V) (H3 : Hp), (al = .non ∨ ∃ n : Int, al = .int n) → Same H2 H3 → ∀ bg, H3 bg = none → Q (.ref bg) (upd H3 bg (.lst [.int z, .int 1, .ref D, al])) := fun al H3 hal S3 bg nbg => by
      have nb0 : H bg = none := (S2.trans S3).free nbg
      have nDb : D ≠ bg := ne_of_none (S3 _ _ hD2) nbg
      refine k bg D _ (Same.new (S2.trans S3) nb0) ⟨nDb, ⟨_, _, _, upd_same, hal⟩, gs.map fun n => if n < 0 then -n else n, ?_⟩ nb0 nD0
      rw [upd_ne nDb, S3 _ _ hD2, List.map_map]
      rfl
    refine ⟨_, rfl, _, ns.length, rfl, .inl ⟨_, hs2, by simp⟩, _, _, rfl, rfl, _, rfl, ?_⟩
    by_cases c1 : (ns.length : Int) < 2
    · refine ifT c1 ⟨_, rfl, _, gs.length, rfl, .inl ⟨_, SqL.of hD2, by simp⟩, rfl, _, rfl, ?_⟩
      by_cases c2 : V.int (gs.length : Int) = V.int 0
      · refine ifT c2 ?_
        refine ⟨_, rfl, a, rfl, ⟨_, hs2⟩, fun D2 nD2 => lc_mapL ns V.int V.int hs2 nD2 (by omega) (fun i n e acc hz => ⟨rfl, _, rfl, _, rfl, lc_end hz rfl⟩) ?_⟩
        refine ⟨D2, ns, rfl, SqL.of upd_same, _, rfl, ?_⟩
        exact ⟨_, rfl, _, rfl, _, rfl, by show 4 ≤ sizeLine; exact sz1 (by omega), fin _ _ (.inr ⟨_, rfl⟩) (Same.upd nD2)⟩
      · exact ifF c2 ⟨_, rfl, _, rfl, _, rfl, by show 4 ≤ sizeLine; exact sz1 (by omega), fin _ _ (.inl rfl) (Same.refl _)⟩
    · exact ifF c1 (iteF ⟨_, rfl, _, rfl, _, rfl, by show 4 ≤ sizeLine; exact sz1 (by omega), fin _ _ (.inl rfl) (Same.refl _)⟩)
theorem ok_lpick {f : Addr} {fd : FuncData} (F : Fun K "_law_pick" "_law_pick" sLPick f fd) (T : Bt mg) : FnOk P w K mg base CX0 1 f fd ["_law_bag_here", "_law_many"] spLPick := by
  refine F.ok scLPick (fun vs H Q E h => ?_) (fun cdv A outer s H vs Q E hr h => ?_)
  · obtain ⟨_, _, _, rfl, _⟩ := h
    rfl
  · obtain ⟨bg, gr, m, rfl, ⟨ngb, ⟨z, c, al, hb, hal⟩, gs, hg⟩, m0, m1, k⟩ := h
    have nd := scLPick.nd
    have m2 : m < 1073741824 := by omega
    refine ⟨_, pss_cons (ps_if (pt_cmpR op_notN (pe_ix ix_list (pv 0) pe_int (fun _ _ => rfl)) pe_non (nomark _)) (pss_one (ps_ret (pe_op op_mod (pInt T (pe_ix ix_list (pv 0) pe_int (fun _ _ => rfl))) (pv 1)))) pss_nil)
      (pss_cons (ps_asg (pe_op op_add (pe_ix ix_list (pv 0) pe_int (fun _ _ => rfl)) pe_int) (pg_sub (pv 0) pe_int set_list))
      (pss_cons (ps_set (i := 2) nd rfl (Or.inl rfl) (pe_ix ix_list (pv 0) pe_int (fun _ _ => rfl)))
      (pss_cons (ps_if (pt_cmpR op_gt (pLen T (pv 2)) pe_int (nomark _))
        (pss_cons (ps_set (i := 3) nd rfl (Or.inl rfl) (pe_op op_mod (pInt T (pe_ix ix_list (pv 2) pe_int (fun _ _ => rfl))) (pv 1)))
        (pss_cons (ps_asg (pe_op op_fdiv (pInt T (pe_ix ix_list (pv 2) pe_int (fun _ _ => rfl))) (pv 1)) (pg_sub (pv 2) pe_int set_list))
        (pss_cons (ps_if (pt_cmpR op_eq (pe_ix ix_list (pv 2) pe_int (fun _ _ => rfl)) pe_int (nomark _)) (pss_one (ps_expr (pe_bm PySem.F.plainAttrs_list PySem.F.slot_list_pop PySem.F.type_list_pop mt_popAt (pv 2) (pa_cons pe_int pa_nil)))) pss_nil)
        (pss_one (ps_ret (pv 3)))))) pss_nil)
      (pss_cons (ps_set (i := 4) nd rfl (Or.inl rfl) (pe_op op_mod (pInt T (pe_op op_mul (pe_op op_add (pe_ix ix_list (pv 0) pe_int (fun _ _ => rfl)) (pe_op op_mul pe_int (pe_ix ix_list (pv 0) pe_int (fun _ _ => rfl)))) pe_int)) pe_int))
      (pss_cons (ps_set (i := 4) nd rfl (Or.inl rfl) (pe_op op_mod (pInt T (pe_op op_mul (pv 4) (pe_op op_add (pe_op op_fdiv (pv 4) pe_int) pe_int))) pe_int))
      (pss_cons (ps_set (i := 4) nd rfl (Or.inl rfl) (pe_op op_mod (pInt T (pe_op op_mul (pv 4) (pe_op op_add (pe_op op_fdiv (pv 4) pe_int) pe_int))) pe_int))
      (pss_one (ps_ret (pe_op op_mod (pInt T (pe_op op_fdiv (pv 4) pe_int)) (pv 1)))))))))), ?_⟩
    have ngb' := ngb
    have rest : ∀ (z c : Int) (H1 : Hp) (y : Option V), H1 bg = some (.lst [.int z, .int c, .ref gr, al]) → BagAt H1 bg gr → SameX bg gr H H1 →
        (tSeq (tAsg (tOp (rI (fun _ j => 0 < j) fun i j => .int (i % j)) (tCB rInt1 (tCons (tOp (rI CMul fun i j => .int (i * j)) (tOp (rI0 fun i j => .int (i + j)) (tOp (rIxL K) (tVar 0) (tC (.int 0))) (tOp (rI CMul fun i j => .int (i * j)) (tC (.int 7919)) (tOp (rIxL K) (tVar 0) (tC (.int 1))))) (tC (.int 48271))) tNil)) (tC (.int 2147483647))) (gName 4))
          (tSeq (tAsg (tOp (rI (fun _ j => 0 < j) fun i j => .int (i % j)) (tCB rInt1 (tCons (tOp (rI CMul fun i j => .int (i * j)) (tVar 4) (tOp (rI0 fun i j => .int (i + j)) (tOp (rI CDiv fun i j => .int (i / j)) (tVar 4) (tC (.int 1009))) (tC (.int 69621)))) tNil)) (tC (.int 2147483647))) (gName 4))
          (tSeq (tAsg (tOp (rI (fun _ j => 0 < j) fun i j => .int (i % j)) (tCB rInt1 (tCons (tOp (rI CMul fun i j => .int (i * j)) (tVar 4) (tOp (rI0 fun i j => .int (i + j)) (tOp (rI CDiv fun i j => .int (i / j)) (tVar 4) (tC (.int 2003))) (tC (.int 40692)))) tNil)) (tC (.int 2147483399))) (gName 4))
          (tRet (tOp (rI (fun _ j => 0 < j) fun i j => .int (i % j)) (tCB rInt1 (tCons (tOp (rI CDiv fun i j => .int (i / j)) (tVar 4) (tC (.int 16))) tNil)) (tVar 1))))))
          { nx := fun _ H' => Q .non H', rt := Q } [some (.ref bg), some (.int m), some (.ref gr), y, none] H1 := fun z c H1 y hb1 bag1 S1 => by
      refine ⟨_, rfl, bg, _, 0, .int z, rfl, rfl, SqL.of hb1, at_of (j := 0) rfl rfl, _, rfl, bg, _, 1, .int c, rfl, rfl, SqL.of hb1, at_of (j := 1) rfl rfl, _, _, rfl, rfl, .inl ⟨by decide, by decide⟩, _, _, rfl, rfl, _, _, rfl, rfl, .inr ⟨by decide, by decide⟩, _, rfl, _, _, rfl, rfl, (by show (0 : Int) < 2147483647; decide), ?_⟩
      have a0 := Int.emod_nonneg ((z + 7919 * c) * 48271) (by decide : (2147483647 : Int) ≠ 0)
      have a1 := Int.emod_lt_of_pos ((z + 7919 * c) * 48271) (by decide : (0 : Int) < 2147483647)
      generalize (z + 7919 * c) * 48271 % 2147483647 = x1 at a0 a1 ⊢
      refine ⟨_, rfl, _, rfl, _, _, rfl, rfl, ⟨by decide, by decide⟩, _, _, rfl, rfl, _, _, rfl, rfl, .inl ⟨by omega, by omega⟩, _, rfl, _, _, rfl, rfl, (by show (0 : Int) < 2147483647; decide), ?_⟩
      have b0 := Int.emod_nonneg (x1 * (x1 / 1009 + 69621)) (by decide : (2147483647 : Int) ≠ 0)
      have b1 := Int.emod_lt_of_pos (x1 * (x1 / 1009 + 69621)) (by decide : (0 : Int) < 2147483647)
      generalize x1 * (x1 / 1009 + 69621) % 2147483647 = x2 at b0 b1 ⊢
      refine ⟨_, rfl, _, rfl, _, _, rfl, rfl, ⟨by decide, by decide⟩, _, _, rfl, rfl, _, _, rfl, rfl, .inl ⟨by omega, by omega⟩, _, rfl, _, _, rfl, rfl, (by show (0 : Int) < 2147483399; decide), ?_⟩
      exact ⟨_, rfl, _, _, rfl, rfl, ⟨by decide, by decide⟩, _, rfl, _, rfl, _, _, rfl, rfl, m0, k _ _ (Int.emod_nonneg _ (by omega)) (Int.emod_lt_of_pos _ m0) bag1 S1⟩
    refine ⟨_, rfl, bg, _, 3, al, rfl, rfl, SqL.of hb, at_of (j := 3) rfl rfl, rfl, _, rfl, ?_⟩
    rcases hal with rfl | ⟨n, rfl⟩
    · refine iteNS rfl ?_
      refine ⟨_, rfl, bg, _, 1, .int c, rfl, rfl, SqL.of hb, at_of (j := 1) rfl rfl, _, _, rfl, rfl, _, rfl, bg, _, 1, 1, rfl, rfl, hb, rfl, ?_⟩
      have hg1 : (upd H bg (.lst ([V.int z, .int c, .ref gr, .non].set 1 (.int (c + 1))))) gr = some (.lst (gs.map V.int)) := by rw [upd_ne ngb]; exact hg
      have hb1 : (upd H bg (.lst ([V.int z, .int c, .ref gr, .non].set 1 (.int (c + 1))))) bg = some (.lst [.int z, .int (c + 1), .ref gr, .non]) := upd_same
      have S1 : SameX bg gr H (upd H bg (.lst ([V.int z, .int c, .ref gr, .non].set 1 (.int (c + 1))))) := fun b o n1 n2 e => by rw [upd_ne n1]; exact e
      generalize upd H bg (.lst ([V.int z, .int c, .ref gr, .non].set 1 (.int (c + 1)))) = H1 at hg1 hb1 S1 ⊢
      refine ⟨_, rfl, bg, _, 2, .ref gr, rfl, rfl, SqL.of hb1, at_of (j := 2) rfl rfl, ?_⟩
      refine ⟨_, rfl, _, gs.length, rfl, .inl ⟨_, SqL.of hg1, by simp⟩, _, _, rfl, rfl, _, rfl, ?_⟩
      cases gs with
      | nil => exact ifF (by decide) (rest z (c + 1) H1 _ hb1 ⟨ngb, ⟨_, _, _, hb1, .inl rfl⟩, [], hg1⟩ S1)
      | cons g0 gs =>
        refine ifT (by simp) ?_
        have hg1' : H1 gr = some (.lst (V.int g0 :: gs.map V.int)) := hg1
        refine ⟨_, rfl, gr, _, 0, .int g0, rfl, rfl, SqL.of hg1', at_of (j := 0) rfl rfl, _, rfl, _, rfl, _, _, rfl, rfl, m0, ?_⟩
        refine ⟨_, rfl, gr, _, 0, .int g0, rfl, rfl, SqL.of hg1', at_of (j := 0) rfl rfl, _, rfl, _, rfl, _, _, rfl, rfl, ⟨m0, m2⟩, _, rfl, gr, _, 0, 0, rfl, rfl, hg1', by unfold ixN; rw [if_pos (by decide), if_pos (by simp)]; rfl, ?_⟩
        have hg2 : (upd H1 gr (.lst ((V.int g0 :: gs.map V.int).set 0 (.int (g0 / m))))) gr = some (.lst (((g0 / m) :: gs).map V.int)) := upd_same
        have hb2 : (upd H1 gr (.lst ((V.int g0 :: gs.map V.int).set 0 (.int (g0 / m))))) bg = some (.lst [.int z, .int (c + 1), .ref gr, .non]) := by rw [upd_ne ngb.symm]; exact hb1
        have S2 : SameX bg gr H (upd H1 gr (.lst ((V.int g0 :: gs.map V.int).set 0 (.int (g0 / m))))) := fun b o n1 n2 e => by rw [upd_ne n2]; exact S1 b o n1 n2 e
        generalize upd H1 gr (.lst ((V.int g0 :: gs.map V.int).set 0 (.int (g0 / m)))) = H2 at hg2 hb2 S2 ⊢
        have hg2' : H2 gr = some (.lst (V.int (g0 / m) :: gs.map V.int)) := hg2
        refine ⟨_, rfl, gr, _, 0, .int (g0 / m), rfl, rfl, SqL.of hg2', at_of (j := 0) rfl rfl, rfl, _, rfl, ?_⟩
        by_cases c2 : V.int (g0 / m) = V.int 0
        · refine ifT c2 ⟨_, rfl, .inl ⟨rfl, _, SqL.of hg2'⟩, gr, _, 0, 0, _, rfl, rfl, hg2', by decide, by decide, by unfold seqIndex?; simp, rfl, ?_⟩
          refine ⟨_, rfl, k _ _ (Int.emod_nonneg _ (by omega)) (Int.emod_lt_of_pos _ m0) ⟨ngb, ⟨_, _, _, by rw [upd_ne ngb.symm]; exact hb2, .inl rfl⟩, gs, upd_same⟩ fun b o n1 n2 e => ?_⟩
          rw [upd_ne n2]
          exact S2 b o n1 n2 e
        · exact ifF c2 ⟨_, rfl, k _ _ (Int.emod_nonneg _ (by omega)) (Int.emod_lt_of_pos _ m0) ⟨ngb, ⟨_, _, _, hb2, .inl rfl⟩, _, hg2⟩ S2⟩
    · refine ifE (b := true) (by rw [decide_eq_false (by intro z; cases z)]; rfl) (iteT ?_)
      exact ⟨_, rfl, bg, _, 3, .int n, rfl, rfl, SqL.of hb, at_of (j := 3) rfl rfl, _, rfl, _, rfl, _, _, rfl, rfl, m0, k _ _ (Int.emod_nonneg _ (by omega)) (Int.emod_lt_of_pos _ m0) ⟨ngb, ⟨_, _, _, hb, .inr ⟨n, rfl⟩⟩, gs, hg⟩ (SameX.refl _ _ _)⟩
theorem ok_lsome {f : Addr} {fd : FuncData} (F : Fun K "_law_some" "_law_some" sLSome f fd) (T : Bt mg) (hP : Has P w K mg base CX0 1 sLPick "_law_pick" ["_law_bag_here", "_law_many"] spLPick) : FnOk P w K mg base CX0 2 f fd ["_law_bag_here", "_law_things"] (spLSome K) := by
  obtain ⟨fP, fdP, DP, GP⟩ := hP
  refine F.ok scLSome (fun vs H Q E h => ?_) (fun cdv A outer s H vs Q E hr h => ?_)
  · obtain ⟨_, _, _, _, rfl, _⟩ := h
    rfl
  · obtain ⟨bg, gr, t, xs, rfl, hb, n1, n2, ht, hx, hl, k⟩ := h
    have lp : 0 < xs.length := List.length_pos_iff.mpr hx
    refine ⟨_, pss_one (ps_ret (pe_ix ix_seq (pv 1) (pe_call GP hr rfl DP.g DP.F.kp DP.b .nil pass0 (pa_cons (pv 0) (pa_cons (pLen T (pv 1)) pa_nil))) (fun _ _ => rfl))), ?_⟩
    refine ⟨_, rfl, _, rfl, _, rfl, _, xs.length, rfl, ?_, bg, gr, _, rfl, hb, by omega, by omega, fun r H1 r0 r1 hb1 S1 => ?_⟩
    · rcases ht with ht | ht
      · exact .inl ⟨_, SqL.of ht, rfl⟩
      · exact .inr ⟨_, SqT.of ht, rfl⟩
    obtain ⟨j, rfl⟩ : ∃ j : Nat, r = (j : Int) := ⟨r.toNat, by omega⟩
    have hj : j < xs.length := by omega
    have ea : atI xs (j : Int) = some xs[j] := at_of rfl (List.getElem?_eq_getElem hj)
    rcases ht with ht | ht
    · exact .inl ⟨t, xs, _, _, rfl, rfl, SqL.of (S1 _ _ n1 n2 ht), ea, k _ _ (List.getElem_mem hj) hb1 S1⟩
    · exact .inr (.inl ⟨t, xs, _, _, rfl, rfl, SqT.of (S1 _ _ n1 n2 ht), ea, k _ _ (List.getElem_mem hj) hb1 S1⟩)
end
end FTW
end
section
set_option Elab.async false
set_option linter.all false
set_option maxRecDepth 100000
set_option maxHeartbeats 4000000
/-! what the law is told -/
namespace FTW
open PySem PySem.Spec PyProof.Rows L2 FTR
open FT (Tx Gr aget aput)
/-- isinstance(e, c) of the error that a suite holds, whichever it is -/
def rIsX (K : PySem.W.Frag) (cls : Value) (d : Option Addr) (a : Addr) : List V → Hp → VK → Prop := fun xs H Q => ∃ (D : Addr) (c : V) (cv : Value) (b : Bool), cls = .ref D ∧ d = none ∧ ExcC K D ∧ xs = [.ref a, c] ∧ (∀ u, RelV c u → u = cv) ∧ PySem.W.kitOne K (.ref D) cv = some b ∧ Q (.bl b) H
theorem call_isX {X : Cx} {a : Addr} {oe : Obj} {cls : Value} {d : Option Addr} {pn : List (Addr × Obj)} (hz : Zc cls d oe) (hf : ∃ vs, oe.data = .fields vs) : CallR (X.suite a ((a, oe) :: pn)) (.builtin "isinstance") (rIsX X.K cls d a) := by
  intro pins s σ H xs us Q I r h
  obtain ⟨D, c, cv, b, rfl, rfl, C, e, h1, h2, q⟩ := h
  exact call_isE C hz hf pins s σ H xs us Q I r ⟨c, cv, b, e, h1, h2, q⟩
/-- the errors of the package, as the top has left them -/
structure Errs (K : PySem.W.Frag) (mg : Str → Option Value) (LE NE NN M : Addr) : Prop where
  gLE : mg "LogError" = some (.ref LE)
  gM : mg "TooMany" = some (.ref M)
  gNE : mg "NotEnough" = some (.ref NE)
  gNN : mg "NoNumber" = some (.ref NN)
  mm : PySem.W.exmOne K (.ref M) (.ref M) = some true
  em : PySem.W.exmOne K (.ref NE) (.ref M) = some false
  nm : PySem.W.exmOne K (.ref NN) (.ref M) = some false
  el : PySem.W.exmOne K (.ref NE) (.ref LE) = some true
  nl : PySem.W.exmOne K (.ref NN) (.ref LE) = some true
  cE : ExcC K NE
  cN : ExcC K NN
  ee : PySem.W.kitOne K (.ref NE) (.ref NE) = some true
  en : PySem.W.kitOne K (.ref NE) (.ref NN) = some false
  ne : PySem.W.kitOne K (.ref NN) (.ref NE) = some false
  nn : PySem.W.kitOne K (.ref NN) (.ref NN) = some true
  xM : XfC K M
  noM : PySem.W.findIn K (.ref M) "most" = some none
abbrev sLTold : Stmt := top 49
theorem scLTold : FnScope ["_law_book", "_law_which", "_law_many", "e", "_law_flags"] ["_law_book", "_law_which", "_law_many"] (defScope sLTold) := ⟨rfl, rfl, rfl, by decide +kernel, rfl, by decide +kernel, by decide +kernel⟩
/-- a new pair -/
def Told (H H' : Hp) (t : Addr) (x y : V) : Prop := Same H H' ∧ H t = none ∧ H' t = some (.tup [x, y])
def spLTold (K : PySem.W.Frag) (C : Addr) : Sp := fun vs H Q _ => ∃ b P which x, vs = [.ref b, .int which, x] ∧ BookAt K C H b P ∧ Pcs P ∧
  ((which = 0 ∧ ∀ g t H', FT.IsG P (ownOf P) g → (¬ Ends_ g → Told H H' t (.str "enough") .non → Q (.ref t) H') ∧ (Ends_ g → (∀ l p, FT.FreeRes g (some l) → H' p = some (.lst (l.map tx)) → H p = none → Told H H' t (.str "told") (.ref p) → Q (.ref t) H') ∧
      (FT.FreeRes g none → Told H H' t (.str "many") (.int 3000) → Q (.ref t) H'))) ∨
   (which = 1 ∧ ∀ g t H', FT.IsG P (ownOf P) g → (¬ Ends_ g → Told H H' t (.str "enough") .non → Q (.ref t) H') ∧ (Ends_ g → ∀ h, LongIs g h → Told H H' t (.str "told") (.int h) → Q (.ref t) H')) ∨
   (which = 2 ∧ ((∃ n : Nat, x = .int (n : Int) ∧ n ≤ 1000 ∧ ∀ g t H', FT.IsG P (ownOf P) g → Told H H' t (.str "told") (.int (FT.total (FT.cnt g n))) → Q (.ref t) H') ∨
      ((NotInt K H x ∨ ∃ n, x = .int n ∧ ¬ (0 ≤ n ∧ n ≤ 1000)) ∧ ∀ t H', Told H H' t (.str "number") .non → Q (.ref t) H'))))
def tsMany (M : Addr) : Suite := fun a cls d => tRet (tTup (tCons (tC (.str "many")) (tCons (tXf a cls d M "most" (tVar 3)) tNil)))
def tsLog (K : PySem.W.Frag) (NE NN : Addr) : Suite := fun a cls d => tSeq (tAsg (tLst (tCons (tCB (rIsX K cls d a) (tCons (tVar 3) (tCons (tC (.ref NE)) tNil))) (tCons (tCB (rIsX K cls d a) (tCons (tVar 3) (tCons (tC (.ref NN)) tNil))) tNil))) (gName 4))
  (tRet (tTup (tCons (tIf (tTest (tOp rEq (tBM K "list" (rCntB K) (tVar 4) (tCons (tC (.bl true)) tNil)) (tC (.int 1)))) (tOp (rIxL K) (tLst (tCons (tC (.str "enough")) (tCons (tC (.str "number")) tNil))) (tBM K "list" (rIndex K) (tVar 4) (tCons (tC (.bl true)) tNil))) (tC (.str "other"))) (tCons (tC .non) tNil))))
section
variable {P : Program} {w : World} {K : PySem.W.Frag} {mg : Str → Option Value} {base : Heap}
theorem ok_ltold {f C LE NE NN M : Addr} {fd : FuncData} (F : Fun K "_law_told" "_law_told" sLTold f fd) (T : Bt mg) (E0 : Errs K mg LE NE NN M) (hF : Has P w K mg base (L2.CX P w) 5 sFree "free_texts" ["book"] (spFree K C NE M))
    (hL : Has P w K mg base (L2.CX P w) 5 sLongest "longest_free" ["book"] (spLongest K C NE)) (hC : Has P w K mg base (L2.CX P w) 4 sCount "free_count" ["book", "many"] (spCount K C NN)) :
    FnOk P w K mg base CX0 6 f fd ["_law_book", "_law_which", "_law_many"] (spLTold K C) := by
  obtain ⟨fF, fdF, DF, GF⟩ := hF
  obtain ⟨fL, fdL, DL, GL⟩ := hL
  obtain ⟨fC, fdC, DC, GC⟩ := hC
  refine F.ok scLTold (fun vs H Q E h => ?_) (fun cdv A outer s H vs Q E hr h => ?_)
  · obtain ⟨_, _, _, _, rfl, _⟩ := h
    rfl
  · obtain ⟨b, L, which, x, rfl, hb, pc, h⟩ := h
    have nd := scLTold.nd
    refine ⟨_, pss_one (ps_try_all (i := 3) (n := "e") (l := [(.ref M, tsMany M), (.ref LE, tsLog K NE NN)]) (Wout := fun _ _ _ _ => False)
      (tb := fun W => tSeq (tIfS (tTest (tOp rEq (tVar 1) (tC (.int 0)))) (tRet (tTup (tCons (tC (.str "told")) (tCons (tCallS (spFree K C NE M) (WE W) (tCons (tVar 0) tNil)) tNil)))) tNext)
        (tRet (tTup (tCons (tC (.str "told")) (tCons (tIf (tTest (tOp rEq (tVar 1) (tC (.int 1)))) (tCallS (spLongest K C NE) (WE W) (tCons (tVar 0) tNil)) (tCallS (spCount K C NN) (WE W) (tCons (tVar 0) (tCons (tVar 2) tNil)))) tNil)))))
      rfl rfl nd rfl rfl takes0
      (fun W pn xe tk _ => pss_cons (ps_if (pt_cmpR op_eq (pv 1) pe_int (nomark _)) (pss_one (ps_ret (pe_tup (pa_cons pe_str (pa_cons (by exact (pe_callS GF (hr.mono (by decide)) rfl DF.g DF.F.kp DF.b (fun σ => passAt tk σ) (by exact (pa_cons (pv 0) pa_nil)))) pa_nil))))) pss_nil)
        (pss_one (ps_ret (pe_tup (pa_cons pe_str (pa_cons (pe_ifExp (pt_cmpR op_eq (pv 1) pe_int (nomark _)) (by exact (pe_callS GL (hr.mono (by decide)) rfl DL.g DL.F.kp DL.b (fun σ => passAt tk σ) (by exact (pa_cons (pv 0) pa_nil))))
          (by exact (pe_callS GC (hr.mono (by decide)) rfl DC.g DC.F.kp DC.b (fun σ => passAt tk σ) (by exact (pa_cons (pv 0) (pa_cons (pv 2) pa_nil)))))) pa_nil))))))
      (.cons ⟨rfl, by decide, Or.inl E0.gM⟩ (fun a oe cls d pn hz hf => pss_one (ps_ret (pe_tup (pa_cons pe_str (pa_cons (by exact pe_xf E0.xM E0.noM hz hf (pv 3)) pa_nil)))))
        (.cons ⟨rfl, by decide, Or.inl E0.gLE⟩ (fun a oe cls d pn hz hf => pss_cons (ps_set (i := 4) nd rfl (Or.inl rfl) (pe_lst (pa_cons (by exact pe_callB (call_isX hz hf) rfl T.isi (by decide +kernel) (pa_cons (pv 3) (pa_cons (pe_glob (v := .ref NE) rfl E0.gNE rfl) pa_nil)))
              (pa_cons (by exact pe_callB (call_isX hz hf) rfl T.isi (by decide +kernel) (pa_cons (pv 3) (pa_cons (pe_glob (v := .ref NN) rfl E0.gNN rfl) pa_nil))) pa_nil))))
            (pss_one (ps_ret (pe_tup (pa_cons (pe_ifExp (pt_cmpR op_eq (by exact pe_bm PySem.F.plainAttrs_list PySem.F.slot_list_count PySem.F.type_list_count mt_countB (pv 4) (pa_cons pe_bl pa_nil)) pe_int (nomark _))
              (by exact pe_ix ix_list (pe_lst (pa_cons pe_str (pa_cons pe_str pa_nil))) (pe_bm PySem.F.plainAttrs_list PySem.F.slot_list_index PySem.F.type_list_index mt_index (pv 4) (pa_cons pe_bl pa_nil)) (fun _ _ => rfl)) pe_str) (pa_cons pe_non pa_nil))))))
          .nil))), ?_⟩
    have two : ∀ {a b : V}, [a, b].length ≤ sizeLine := fun {a b} => sz1 (by show 2 ≤ 100000; omega)
    have hNE : ∀ (D : Ends) (H1 : Hp), D.rt = Q → (∀ t H', Told H1 H' t (.str "enough") .non → Q (.ref t) H') → wAll K 3 (fun _ _ _ _ => False) D [(.ref M, tsMany M), (.ref LE, tsLog K NE NN)] (.ref NE) none [some (.ref b), some (.int which), some x, none, none] H1 := by
      intro D H1 rt kk
      refine ⟨false, E0.em, fun z => (nomatch z), fun _ => ⟨true, E0.el, fun _ a na => ?_, fun z => (nomatch z)⟩⟩
      refine ⟨_, rfl, NE, .ref NE, .ref NE, true, rfl, rfl, E0.cE, rfl, fun u r => r, E0.ee, _, rfl, NE, .ref NN, .ref NN, false, rfl, rfl, E0.cE, rfl, fun u r => r, E0.en, two, fun fl nfl => ?_⟩
      have hfl : (upd H1 fl (.lst [V.bl true, V.bl false])) fl = some (.lst ([true, false].map V.bl)) := upd_same
      refine ⟨_, rfl, .inl ⟨rfl, _, SqL.of hfl⟩, fl, [true, false], true, rfl, rfl, SqL.of hfl, rfl, _, rfl, ifT rfl ?_⟩
      refine ⟨two, fun q nq => ?_⟩
      have nfq : fl ≠ q := ne_of_none hfl nq
      have hfq : SqL K (upd (upd H1 fl (.lst [V.bl true, V.bl false])) q (.lst [V.str "enough", V.str "number"])) fl [V.bl true, V.bl false] := SqL.of (by rw [upd_ne nfq]; exact hfl)
      refine ⟨_, rfl, .inl ⟨rfl, _, hfq⟩, fl, _, .bl true, 0, .bl true, rfl, rfl, hfq, rfl, rfl, rfl, rfl, fun m z' hm => absurd hm (Nat.not_lt_zero m), q, _, 0, .str "enough", rfl, rfl, SqL.of upd_same, at_of (j := 0) rfl rfl, two, fun t nt => ?_⟩
      show D.rt _ _
      rw [rt]
      have S1 := Same.new (o := .lst [V.str "enough", V.str "number"]) (Same.upd (o := .lst [V.bl true, V.bl false]) nfl) ((Same.upd nfl).free nq)
      exact kk t _ ⟨Same.new S1 (S1.free nt), S1.free nt, upd_same⟩
    have hNN : ∀ (D : Ends) (H1 : Hp), D.rt = Q → (∀ t H', Told H1 H' t (.str "number") .non → Q (.ref t) H') → wAll K 3 (fun _ _ _ _ => False) D [(.ref M, tsMany M), (.ref LE, tsLog K NE NN)] (.ref NN) none [some (.ref b), some (.int which), some x, none, none] H1 := by
      intro D H1 rt kk
      refine ⟨false, E0.nm, fun z => (nomatch z), fun _ => ⟨true, E0.nl, fun _ a na => ?_, fun z => (nomatch z)⟩⟩
      refine ⟨_, rfl, NN, .ref NE, .ref NE, false, rfl, rfl, E0.cN, rfl, fun u r => r, E0.ne, _, rfl, NN, .ref NN, .ref NN, true, rfl, rfl, E0.cN, rfl, fun u r => r, E0.nn, two, fun fl nfl => ?_⟩
      have hfl : (upd H1 fl (.lst [V.bl false, V.bl true])) fl = some (.lst ([false, true].map V.bl)) := upd_same
      refine ⟨_, rfl, .inl ⟨rfl, _, SqL.of hfl⟩, fl, [false, true], true, rfl, rfl, SqL.of hfl, rfl, _, rfl, ifT rfl ?_⟩
      refine ⟨two, fun q nq => ?_⟩
      have nfq : fl ≠ q := ne_of_none hfl nq
      have hfq : SqL K (upd (upd H1 fl (.lst [V.bl false, V.bl true])) q (.lst [V.str "enough", V.str "number"])) fl [V.bl false, V.bl true] := SqL.of (by rw [upd_ne nfq]; exact hfl)
      refine ⟨_, rfl, .inl ⟨rfl, _, hfq⟩, fl, _, .bl true, 1, .bl true, rfl, rfl, hfq, rfl, rfl, rfl, rfl, fun m z' hm e => ?_, q, _, 1, .str "number", rfl, rfl, SqL.of upd_same, at_of (j := 1) rfl rfl, two, fun t nt => ?_⟩
      · have : m = 0 := by omega
        subst this
        cases Option.some.inj e
        rfl
      · show D.rt _ _
        rw [rt]
        have S1 := Same.new (o := .lst [V.str "enough", V.str "number"]) (Same.upd (o := .lst [V.bl false, V.bl true]) nfl) ((Same.upd nfl).free nq)
        exact kk t _ ⟨Same.new S1 (S1.free nt), S1.free nt, upd_same⟩
    have hM : ∀ (D : Ends) (H1 : Hp) (d : Addr), H1 d = none → D.rt = Q → (∀ t H', Told H1 H' t (.str "many") (.int 3000) → Q (.ref t) H') → wAll K 3 (fun _ _ _ _ => False) D [(.ref M, tsMany M), (.ref LE, tsLog K NE NN)] (.ref M) (some d) [some (.ref b), some (.int which), some x, none, none] (upd H1 d (.xd [("most", .int 3000)])) := by
      intro D H1 d nd1 rt kk
      refine ⟨true, E0.mm, fun _ a na => ?_, fun z => (nomatch z)⟩
      refine ⟨_, rfl, rfl, rfl, d, _, .int 3000, rfl, upd_same, by simp [List.lookup], two, fun t nt => ?_⟩
      show D.rt _ _
      rw [rt]
      have S1 : Same H1 (upd H1 d (.xd [("most", .int 3000)])) := Same.upd nd1
      exact kk t _ ⟨Same.new S1 (S1.free nt), S1.free nt, upd_same⟩
    have tl : ∀ {H1 H' : Hp} {t : Addr} {x y : V}, Same H H1 → Told H1 H' t x y → Told H H' t x y := fun s h => ⟨s.trans h.1, s.free h.2.1, h.2.2⟩
    have tn : ∀ {H1 : Hp} {t : Addr} {x y : V}, Same H H1 → H1 t = none → Told H (upd H1 t (.tup [x, y])) t x y := fun s h => ⟨Same.new s (s.free h), s.free h, upd_same⟩
    rcases h with ⟨rfl, k⟩ | ⟨rfl, k⟩ | ⟨rfl, k⟩
    · refine ⟨_, rfl, rfl, _, rfl, ifT rfl ⟨_, rfl, b, L, rfl, hb, pc, fun g H1 hg S1 => ⟨fun c => ?_, fun c => ⟨fun l p hl hp np => ⟨two, fun t nt => ?_⟩, fun hn d nd1 => ?_⟩⟩⟩⟩
      · exact hNE _ H1 rfl fun t H' ht => (k g t H' hg).1 c (tl S1 ht)
      · have npt : p ≠ t := ne_of_none hp nt
        exact ((k g t _ hg).2 c).1 l p hl (by rw [upd_ne npt]; exact hp) np (tn S1 nt)
      · exact hM _ H1 d nd1 rfl fun t H' ht => ((k g t H' hg).2 c).2 hn (tl S1 ht)
    · refine ⟨_, rfl, rfl, _, rfl, ifF (by decide) ?_⟩
      refine ⟨_, rfl, rfl, _, rfl, ifT rfl ⟨_, rfl, b, L, rfl, hb, pc, fun g H1 hg S1 => ⟨fun c h h1 h2 h3 => ⟨two, fun t nt => ?_⟩, fun c => ?_⟩⟩⟩
      · exact (k g t _ hg).2 c h ⟨h1, h3⟩ (tn S1 nt)
      · exact hNE _ H1 rfl fun t H' ht => (k g t H' hg).1 c (tl S1 ht)
    · refine ⟨_, rfl, rfl, _, rfl, ifF (by decide) ?_⟩
      refine ⟨_, rfl, rfl, _, rfl, ifF (by decide) ⟨_, rfl, _, rfl, b, L, x, rfl, hb, pc, ?_⟩⟩
      rcases k with ⟨n, hx, hn, k⟩ | ⟨c, k⟩
      · exact .inl ⟨n, hx, hn, fun g H1 hg S1 => ⟨two, fun t nt => k g t _ hg (tn S1 nt)⟩⟩
      · exact .inr ⟨c, hNN _ H rfl k⟩
end
end FTW
end
section
set_option Elab.async false
set_option linter.all false
set_option maxRecDepth 100000
set_option maxHeartbeats 4000000
/-! the law's pieces: more of them -/
namespace FTW
open PySem PySem.Spec PyProof.Rows L2 FTR
open FT (Tx Gr aget aput)
/-- pieces over a to c -/
def Pc3 (P : List Tx) : Prop := Pcs P ∧ ∀ p ∈ P, ∀ c ∈ p, c ≤ 99
theorem Pc3.snoc {P : List Tx} {p : Tx} (h : Pc3 P) (hp : p ∉ P) (few : P.length < 12) (ne : p ≠ []) (len : p.length ≤ 8) (lt : ∀ c ∈ p, 97 ≤ c ∧ c ≤ 99) : Pc3 (P ++ [p]) := by
  obtain ⟨pc, h3⟩ := h
  refine ⟨⟨by simp, by simp; omega, ?_, fun q hq => ?_, fun q hq => ?_, fun q hq c hc => ?_⟩, fun q hq c hc => ?_⟩
  · rw [List.nodup_append]
    refine ⟨pc.nd, by simp, fun a ha b hb e => ?_⟩
    rw [List.mem_singleton] at hb
    subst hb; subst e; exact hp ha
  · rcases List.mem_append.mp hq with hq | hq
    · exact pc.ne q hq
    · rw [List.mem_singleton.mp hq]; exact ne
  · rcases List.mem_append.mp hq with hq | hq
    · exact pc.len q hq
    · rw [List.mem_singleton.mp hq]; exact len
  · rcases List.mem_append.mp hq with hq | hq
    · exact pc.let_ q hq c hc
    · rw [List.mem_singleton.mp hq] at hc
      have := lt c hc
      omega
  · rcases List.mem_append.mp hq with hq | hq
    · exact h3 q hq c hc
    · rw [List.mem_singleton.mp hq] at hc
      exact (lt c hc).2
theorem own3 {P : List Tx} {own : List Nat} (h : Pc3 P) (ho : Own P own) : (∀ c ∈ own, 97 ≤ c ∧ c ≤ 99) ∧ own ≠ [] ∧ own.length ≤ 3 := by
  have h1 : ∀ c ∈ own, 97 ≤ c ∧ c ≤ 99 := fun c hc => by
    obtain ⟨p, hp, hm⟩ := (ho.2 c).mp hc
    exact ⟨(h.1.let_ p hp c hm).1, h.2 p hp c hm⟩
  refine ⟨h1, fun e => ?_, ?_⟩
  · obtain ⟨p, hp⟩ := List.exists_mem_of_ne_nil P h.1.some
    obtain ⟨c, hc⟩ := List.exists_mem_of_ne_nil p (h.1.ne p hp)
    have := (ho.2 c).mpr ⟨p, hp, hc⟩
    rw [e] at this
    cases this
  · have nd : own.Nodup := ho.1.imp fun z => Nat.ne_of_lt z
    have := FT.nodup_len nd (m := [97, 98, 99]) fun c hc => by
      have := h1 c hc
      have : c = 97 ∨ c = 98 ∨ c = 99 := by omega
      simpa using this
    simpa using this
abbrev sLMore : Stmt := top 41
theorem scLMore : FnScope ["_law_bag_here", "_law_pieces", "_law_most", "_law_found", "_law_own_here", "_law_turn", "_law_piece", "_law_letter"] ["_law_bag_here", "_law_pieces", "_law_most"] (defScope sLMore) := ⟨rfl, rfl, rfl, by decide +kernel, rfl, by decide +kernel, by decide +kernel⟩
def spLMore : Sp := fun vs H Q _ => ∃ (bg gr t : Addr) (m : Int) (P : List Tx), vs = [.ref bg, .ref t, .int m] ∧ BagAt H bg gr ∧ H t = some (.tup (P.map tx)) ∧ Pc3 P ∧ 0 ≤ m ∧ m ≤ 100 ∧ ∀ P' t' H', Pc3 P' → H' t' = some (.tup (P'.map tx)) → BagAt H' bg gr → SameX bg gr H H' → Q (.ref t') H'
section
variable {P : Program} {w : World} {K : PySem.W.Frag} {mg : Str → Option Value} {base : Heap}
theorem ok_lmore {f : Addr} {fd : FuncData} (F : Fun K "_law_more" "_law_more" sLMore f fd) (T : Bt mg) (hP : Has P w K mg base CX0 1 sLPick "_law_pick" ["_law_bag_here", "_law_many"] spLPick)
    (hS : Has P w K mg base CX0 2 sLSome "_law_some" ["_law_bag_here", "_law_things"] (spLSome K)) : FnOk P w K mg base CX0 3 f fd ["_law_bag_here", "_law_pieces", "_law_most"] spLMore := by
  obtain ⟨fP, fdP, DP, GP⟩ := hP
  obtain ⟨fS, fdS, DS, GS⟩ := hS
  refine F.ok scLMore (fun vs H Q E h => ?_) (fun cdv A outer s H vs Q E hr h => ?_)
  · obtain ⟨_, _, _, _, _, rfl, _⟩ := h
    rfl
  · obtain ⟨bg, gr, t, m, L, rfl, bag, ht, p3, m0, m1, k⟩ := h
    have nd := scLMore.nd
    have pc := p3.1
    have hr1 : Room 1 _ := hr.mono (by decide)
    refine ⟨_, pss_cons (ps_asg (pe_tup (pa_cons (pe_callTy call_list_of (by rfl) T.list PyProof.Rows.boot_list (pa_cons (pv 1) pa_nil)) (pa_cons (pe_callB (cr_sortSg rfl) rfl T.sorted (by decide +kernel) (pa_cons (pe_callTy (cr_setTx rfl) rfl T.set (by decide +kernel) (pa_cons (pe_join pe_str (pv 1)) pa_nil)) pa_nil)) pa_nil)))
        (pg_tup rfl (pgs_cons (pg_name (i := 3) nd rfl (Or.inl rfl)) (pgs_cons (pg_name (i := 4) nd rfl (Or.inr rfl)) pgs_nil))))
      (pss_cons (ps_for PassesOwn.never rfl (pi_range1 rfl T.rng (pa_cons (pe_call GP hr1 rfl DP.g DP.F.kp DP.b .nil pass0 (pa_cons (pv 0) (pa_cons (pe_op op_add (pv 2) pe_int) pa_nil))) pa_nil)) (pg_name (i := 5) nd rfl (Or.inl rfl))
        (pss_cons (ps_set (i := 6) nd rfl (Or.inl rfl) (pe_join pe_str (pe_lc (own := [("_law_letter", 7)]) (g := gName 7) (tt := tYes) rfl nd (pi_range1 rfl T.rng (pa_cons (pe_op op_add pe_int (pe_call GP hr1 rfl DP.g DP.F.kp DP.b .nil pass0 (pa_cons (pv 0) (pa_cons pe_int pa_nil)))) pa_nil))
            (blkOk_by (N := ["_law_bag_here", "_law_pieces", "_law_most", "_law_found", "_law_own_here", "_law_turn", "_law_piece", "_law_letter"]) (sc := defScope sLMore) (by decide +kernel))
            (fun _ _ _ _ _ => pg_name (i := 7) nd rfl (Or.inl rfl)) (fun _ _ _ _ _ => pts_nil) (fun _ _ _ _ _ => pe_call GS hr rfl DS.g DS.F.kp DS.b .nil pass0 (pa_cons (pv 0) (pa_cons (pv 4) pa_nil))))))
        (pss_one (ps_if (PW.pt (pw_and (pt_cmpR op_notIn_seq (pv 6) (pv 3) rfl) (pw_and1 (pt_cmpR op_lt (pLen T (pv 3)) pe_int (nomark _)))))
          (pss_one (ps_expr (pe_bm PySem.F.plainAttrs_list PySem.F.slot_list_append PySem.F.type_list_append mt_append (pv 3) (pa_cons (pv 6) pa_nil)))) pss_nil))))
      (pss_one (ps_ret (pe_callTy call_tuple_of (by rfl) T.tup PyProof.Rows.boot_tuple (pa_cons (pv 3) pa_nil))))), ?_⟩
    refine ⟨_, rfl, t, _, rfl, .inr (SqT.of ht), fun fo nfo => ?_⟩
    have ht1 : (upd H fo (.lst (L.map tx))) t = some (.tup (L.map tx)) := (Same.upd nfo) _ _ ht
    refine ⟨⟨_, rfl⟩, _, rfl, ?_⟩
    refine ⟨_, t, L.map SX.S, rfl, rfl, .inr (pcs_seq (SqT.of ht1)), pcs_size pc, ?_⟩
    rw [join0]
    refine ⟨L.flatten, rfl, by have := pcs_flat pc; omega, fun se l nse ndl hl => ⟨se, l, rfl, upd_same, ndl, pcs_few pc hl ndl, fun own ow hso pm now => ⟨by show 2 ≤ sizeLine; exact sz1 (by omega), fun p0 np0 => ?_⟩⟩⟩
    have ho := own_of hl hso pm
    obtain ⟨o1, o2, o3⟩ := own3 p3 ho
    have Sse : Same H (upd (upd H fo (.lst (L.map tx))) se (SgO P w se l)) := Same.new (Same.upd nfo) ((Same.upd nfo).free nse)
    have now0 : H ow = none := Sse.free now
    have nfs : fo ≠ se := ne_of_none upd_same nse
    have nfw : fo ≠ ow := ne_of_none (show (upd (upd H fo (.lst (L.map tx))) se (SgO P w se l)) fo = _ by rw [upd_ne nfs]; exact upd_same) now
    have S1 : Same H (upd (upd (upd (upd H fo (.lst (L.map tx))) se (SgO P w se l)) ow (.lst (own.map fun c => V.str (SX.S [c])))) p0 (.tup [.ref fo, .ref ow])) := Same.new (Same.new Sse now0) ((Same.new Sse now0).free np0)
    have hfo1 : (upd (upd (upd (upd H fo (.lst (L.map tx))) se (SgO P w se l)) ow (.lst (own.map fun c => V.str (SX.S [c])))) p0 (.tup [.ref fo, .ref ow])) fo = some (.lst (L.map tx)) := by
      have e : (upd (upd (upd H fo (.lst (L.map tx))) se (SgO P w se l)) ow (.lst (own.map fun c => V.str (SX.S [c])))) fo = some (.lst (L.map tx)) := by rw [upd_ne nfw, upd_ne nfs, upd_same]
      rw [upd_ne (ne_of_none e np0)]
      exact e
    have how1 : (upd (upd (upd (upd H fo (.lst (L.map tx))) se (SgO P w se l)) ow (.lst (own.map fun c => V.str (SX.S [c])))) p0 (.tup [.ref fo, .ref ow])) ow = some (.lst (own.map fun c => tx [c])) := by
      rw [upd_ne (ne_of_none upd_same np0), upd_same]
    refine ⟨p0, _, rfl, SqT.of upd_same, rfl, _, _, rfl, _, _, rfl, rfl, ?_⟩
    have bag1 := bag.same S1
    obtain ⟨nf1, nf2⟩ := bag.ne nfo
    obtain ⟨nw1, nw2⟩ := bag.ne now0
    refine ⟨_, rfl, _, rfl, _, _, rfl, rfl, bg, gr, _, rfl, bag1, by omega, by omega, fun r H2 r0 r1 bag2 X2 => ?_⟩
    refine ⟨r, rfl, by omega, by omega, ?_⟩
    refine for_range (lo := 0) (n := r.toNat) (fun i σ H' => ∃ x5 x6, σ = [some (.ref bg), some (.ref t), some (.int m), some (.ref fo), some (.ref ow), x5, x6, none] ∧ BagAt H' bg gr ∧ SameX bg gr H H' ∧ H' ow = some (.lst (own.map fun c => tx [c])) ∧
        ∃ L' : List Tx, H' fo = some (.lst (L'.map tx)) ∧ Pc3 L')
      ⟨_, _, rfl, bag2, (SameX.of S1).trans X2, X2 _ _ nw1 nw2 how1, L, X2 _ _ nf1 nf2 hfo1, p3⟩ ?_ ?_
    · rintro i σ H3 hi ⟨x5, x6, rfl, bag3, X3, how3, L', hfo3, p3'⟩
      refine ⟨⟨_, rfl⟩, _, rfl, bg, gr, 5, rfl, bag3, by omega, by omega, fun r2 H4 r20 r21 bag4 X4 => ?_⟩
      refine ⟨1, r2, rfl, rfl, _, rfl, by omega, by omega, fun D nD => ?_⟩
      obtain ⟨nD1, nD2⟩ := bag4.ne nD
      have how4 := X4 _ _ nw1 nw2 how3
      have hfo4 := X4 _ _ nf1 nf2 hfo3
      refine lc_allW (1 + r2).toNat (fun i H' => BagAt H' bg gr ∧ SameX bg gr H4 H' ∧ ∃ w : Tx, w.length = i ∧ (∀ c ∈ w, c ∈ own) ∧ H' D = some (.lst (w.map fun c => tx [c]))) ⟨bag4.upd nD1 nD2, SameX.of (Same.upd nD), [], rfl, fun c hc => (nomatch hc), upd_same⟩
        (fun j H' hj _ => hj) (fun H' _ => Nat.le_refl _) (fun j x H5 H6 hj q y => ?_) (fun H5 q => ?_)
      · obtain ⟨rfl, rfl⟩ := y
        obtain ⟨bag5, X5, w5, l5, c5, hD5⟩ := q
        refine ⟨rfl, _, rfl, _, rfl, bg, gr, ow, _, rfl, bag5, nw1, nw2, .inl (X5 _ _ nw1 nw2 how4), fun z => o2 (List.map_eq_nil_iff.mp z), by rw [List.length_map]; omega, fun x H7 hx bag7 X7 => ?_⟩
        obtain ⟨c, hc, rfl⟩ := List.mem_map.mp hx
        refine ⟨_, X7 _ _ nD1 nD2 hD5, by rw [List.length_map]; exact big_lt (by omega), bag7.upd nD1 nD2, (X5.trans X7).upd nD, w5 ++ [c], by simp [l5], fun d hd => ?_, by rw [upd_same, List.map_append]; rfl⟩
        rcases List.mem_append.mp hd with hd | hd
        · exact c5 d hd
        · rw [List.mem_singleton.mp hd]; exact hc
      · obtain ⟨bag5, X5, w5, l5, c5, hD5⟩ := q
        obtain ⟨a9, q9, ys9, e1, e2, e3, e4, e5⟩ := join_signs (K := K) (Q := fun v H' => v = tx w5) hD5 (by omega) rfl
        refine ⟨a9, q9, ys9, e1, e2, e3, e4, ?_⟩
        have e5' : V.str (Txt.join a9 ys9) = tx w5 := e5
        rw [e5']
        have hfo5 := X5 _ _ nf1 nf2 hfo4
        have how5 := X5 _ _ nw1 nw2 how4
        have X05 := (X3.trans X4).trans X5
        have few := p3'.1.few
        have next : ∀ (H6 : Hp) (L2 : List Tx), Pc3 L2 → BagAt H6 bg gr → SameX bg gr H H6 → H6 ow = some (.lst (own.map fun c => tx [c])) → H6 fo = some (.lst (L2.map tx)) →
            ∃ x5 x6, [some (V.ref bg), some (.ref t), some (.int m), some (.ref fo), some (.ref ow), some (.int (0 + (i : Nat))), some (tx w5), none] = [some (V.ref bg), some (.ref t), some (.int m), some (.ref fo), some (.ref ow), x5, x6, none] ∧ BagAt H6 bg gr ∧ SameX bg gr H H6 ∧ H6 ow = some (.lst (own.map fun c => tx [c])) ∧
              ∃ L' : List Tx, H6 fo = some (.lst (L'.map tx)) ∧ Pc3 L' := fun H6 L2 h1 h2 h3 h4 h5 => ⟨_, _, rfl, h2, h3, h4, L2, h5, h1⟩
        refine ⟨_, rfl, _, rfl, fo, _, rfl, .inl (SqL.of hfo5), rfl, flat_tx L', _, rfl, ?_⟩
        show if (!inV (tx w5) (L'.map tx)) = true then _ else _
        rw [inV_dec]
        by_cases hin : w5 ∈ L'
        · rw [decide_eq_true hin]
          exact iteF (iteF (next H5 L' p3' bag5 X05 how5 hfo5))
        · rw [decide_eq_false hin]
          refine iteT ⟨_, rfl, _, L'.length, rfl, .inl ⟨_, SqL.of hfo5, by simp⟩, _, _, rfl, rfl, _, rfl, ?_⟩
          by_cases c12 : (L'.length : Int) < 12
          · refine ifT c12 ⟨_, rfl, .inl ⟨rfl, _, SqL.of hfo5⟩, _, rfl, fo, _, _, rfl, rfl, hfo5, by rw [List.length_map]; exact big_lt (by omega), ?_⟩
            have lw : 0 < w5.length := by omega
            refine next _ (L' ++ [w5]) (p3'.snoc hin (by omega) (List.length_pos_iff.mp lw) (by omega) fun c hc => o1 c (c5 c hc)) (bag5.upd nf1 nf2) (X05.upd nfo) (by rw [upd_ne nfw.symm]; exact how5) (by rw [upd_same, List.map_append]; rfl)
          · exact ifF c12 (next H5 L' p3' bag5 X05 how5 hfo5)
    · rintro σ H3 ⟨x5, x6, rfl, bag3, X3, how3, L', hfo3, p3'⟩
      refine ⟨_, rfl, fo, _, rfl, .inl ⟨SqL.of hfo3, fun q nq => ?_⟩⟩
      obtain ⟨nq1, nq2⟩ := bag3.ne nq
      exact k L' q _ p3' upd_same (bag3.upd nq1 nq2) (X3.trans (SameX.of (Same.upd nq)))
end
end FTW
end
section
set_option Elab.async false
set_option linter.all false
set_option maxRecDepth 100000
set_option maxHeartbeats 4000000
/-! the law's pieces: called otherwise, turned about -/
namespace FTW
open PySem PySem.Spec PyProof.Rows L2 FTR
open FT (Tx Gr aget aput)
theorem Pcs.perm {P P' : List Tx} (h : Pcs P) (p : P'.Perm P) : Pcs P' := by
  refine ⟨fun e => ?_, by rw [p.length_eq]; exact h.few, p.nodup_iff.mpr h.nd, fun q hq => h.ne q (p.mem_iff.mp hq), fun q hq => h.len q (p.mem_iff.mp hq), fun q hq => h.let_ q (p.mem_iff.mp hq)⟩
  rw [e] at p
  exact h.some (List.nil_perm.mp p)
theorem map_nodup {α β : Type} {f : α → β} : ∀ {l : List α}, l.Nodup → (∀ a ∈ l, ∀ b ∈ l, f a = f b → a = b) → (l.map f).Nodup
  | [], _, _ => List.nodup_nil
  | x :: l, nd, inj => by
    rw [List.nodup_cons] at nd
    rw [List.map_cons, List.nodup_cons]
    refine ⟨fun z => ?_, map_nodup nd.2 fun a ha b hb => inj a (List.mem_cons_of_mem _ ha) b (List.mem_cons_of_mem _ hb)⟩
    obtain ⟨y, hy, e⟩ := List.mem_map.mp z
    have := inj y (List.mem_cons_of_mem _ hy) x List.mem_cons_self e
    rw [this] at hy
    exact nd.1 hy
theorem map_inj_on {f : Nat → Nat} : ∀ {a b : Tx}, (∀ x ∈ a, ∀ y ∈ b, f x = f y → x = y) → a.map f = b.map f → a = b
  | [], [], _, _ => rfl
  | [], y :: b, _, e => by cases e
  | x :: a, [], _, e => by cases e
  | x :: a, y :: b, inj, e => by
    rw [List.map_cons, List.map_cons] at e
    obtain ⟨e1, e2⟩ := List.cons.inj e
    rw [inj x List.mem_cons_self y List.mem_cons_self e1, map_inj_on (fun u hu v hv => inj u (List.mem_cons_of_mem _ hu) v (List.mem_cons_of_mem _ hv)) e2]
theorem Pcs.ren {P : List Tx} {own : List Nat} {f : Nat → Nat} (h : Pcs P) (ho : Own P own) (inj : ∀ a ∈ own, ∀ b ∈ own, f a = f b → a = b) (rg : ∀ c ∈ own, 97 ≤ f c ∧ f c ≤ 104) : Pcs (P.map fun p => p.map f) := by
  have of : ∀ p ∈ P, ∀ c ∈ p, c ∈ own := fun p hp c hc => (ho.2 c).mpr ⟨p, hp, hc⟩
  refine ⟨fun e => h.some (List.map_eq_nil_iff.mp e), by rw [List.length_map]; exact h.few, map_nodup h.nd fun a ha b hb e => map_inj_on (fun x hx y hy => inj x (of a ha x hx) y (of b hb y hy)) e, fun q hq => ?_, fun q hq => ?_, fun q hq c hc => ?_⟩
  · obtain ⟨p, hp, rfl⟩ := List.mem_map.mp hq
    exact fun e => h.ne p hp (List.map_eq_nil_iff.mp e)
  · obtain ⟨p, hp, rfl⟩ := List.mem_map.mp hq
    rw [List.length_map]; exact h.len p hp
  · obtain ⟨p, hp, rfl⟩ := List.mem_map.mp hq
    obtain ⟨d, hd, rfl⟩ := List.mem_map.mp hc
    exact rg d (of p hp d hd)
theorem Pcs.rev {P : List Tx} (h : Pcs P) : Pcs (P.map List.reverse) := by
  refine ⟨fun e => h.some (List.map_eq_nil_iff.mp e), by rw [List.length_map]; exact h.few, map_nodup h.nd fun a _ b _ e => List.reverse_inj.mp e, fun q hq => ?_, fun q hq => ?_, fun q hq c hc => ?_⟩
  · obtain ⟨p, hp, rfl⟩ := List.mem_map.mp hq
    exact fun e => h.ne p hp (List.reverse_eq_nil_iff.mp e)
  · obtain ⟨p, hp, rfl⟩ := List.mem_map.mp hq
    rw [List.length_reverse]; exact h.len p hp
  · obtain ⟨p, hp, rfl⟩ := List.mem_map.mp hq
    exact h.let_ p hp c (List.mem_reverse.mp hc)
abbrev sLNamed : Stmt := top 40
abbrev nNamed : List Str := ["_law_bag_here", "_law_pieces", "_law_left", "_law_names", "_law_letter", "_law_found", "_law_row", "_law_turn", "_law_piece"]
theorem scLNamed : FnScope nNamed ["_law_bag_here", "_law_pieces"] (defScope sLNamed) := ⟨rfl, rfl, rfl, by decide +kernel, rfl, by decide +kernel, by decide +kernel⟩
def spLNamed : Sp := fun vs H Q _ => ∃ (bg gr t : Addr) (P : List Tx), vs = [.ref bg, .ref t] ∧ BagAt H bg gr ∧ H t = some (.tup (P.map tx)) ∧ Pc3 P ∧ ∀ P' t' H', Pcs P' → H' t' = some (.tup (P'.map tx)) → BagAt H' bg gr → SameX bg gr H H' → Q (.ref t') H'
def rJoinK (K : PySem.W.Frag) : V → List V → Hp → VK → Prop := fun x xs H Q => ∃ a p, ∃ ys : List Str, x = .str a ∧ xs = [.ref p] ∧ (SqL K H p (ys.map V.str) ∨ SqT K H p (ys.map V.str)) ∧ (ys.map (·.length)).sum + ys.length * a.length ≤ 16777216 ∧ Q (.str (Txt.join a ys)) H
theorem erase_map {α β : Type} (f : α → β) : ∀ (l : List α) (j : Nat), (l.map f).eraseIdx j = (l.eraseIdx j).map f
  | [], _ => rfl
  | a :: l, 0 => rfl
  | a :: l, j + 1 => by
    show f a :: (l.map f).eraseIdx j = f a :: (l.eraseIdx j).map f
    rw [erase_map f l j]
theorem pull_perm {α : Type} : ∀ (l : List α) (j : Nat) (h : j < l.length), (l[j] :: l.eraseIdx j).Perm l
  | a :: l, 0, _ => .refl _
  | a :: l, j + 1, h => by
    have ih := pull_perm l j (by simpa using h)
    show (l[j]'(by simpa using h) :: a :: l.eraseIdx j).Perm (a :: l)
    exact (List.Perm.swap ..).trans (ih.cons a)
theorem new_key {l : List Nat} {c : Nat} {f : Nat → Tx} (h : c ∉ l) : ([c] : Tx) ∉ (l.map fun c => (([c] : Tx), f c)).map (·.1) := by
  intro z
  obtain ⟨p, hp, e⟩ := List.mem_map.mp z
  obtain ⟨d, hd, rfl⟩ := List.mem_map.mp hp
  have : d = c := by simpa using e
  exact h (this ▸ hd)
theorem SameX.free {bg gr a : Addr} {H H' : Hp} (s : SameX bg gr H H') (n1 : a ≠ bg) (n2 : a ≠ gr) (h : H' a = none) : H a = none := by
  cases e : H a with
  | none => rfl
  | some o =>
    rw [s a o n1 n2 e] at h
    cases h
theorem seqIndex_nat {j n : Nat} (h : j < n) : seqIndex? (j : Int) n = some j := by
  unfold seqIndex?
  have h1 : ¬ ((j : Int) < 0) := by omega
  simp [h1, h]
section
variable {P : Program} {w : World} {K : PySem.W.Frag} {mg : Str → Option Value} {base : Heap}
theorem ok_lnamed {f : Addr} {fd : FuncData} (F : Fun K "_law_named" "_law_named" sLNamed f fd) (T : Bt mg) (hP : Has P w K mg base CX0 1 sLPick "_law_pick" ["_law_bag_here", "_law_many"] spLPick) : FnOk P w K mg base CX0 2 f fd ["_law_bag_here", "_law_pieces"] spLNamed := by
  obtain ⟨fP, fdP, DP, GP⟩ := hP
  refine F.ok scLNamed (fun vs H Q E h => ?_) (fun cdv A outer s H vs Q E hr h => ?_)
  · obtain ⟨_, _, _, _, rfl, _⟩ := h
    rfl
  · obtain ⟨bg, gr, t, L, rfl, bag, ht, p3, k⟩ := h
    have nd := scLNamed.nd
    have pc := p3.1
    have hu := hu_of hr
    refine ⟨_, pss_cons (ps_asg (pe_tup (pa_cons (pe_callTy (call_listTxt rfl) (by rfl) T.list PyProof.Rows.boot_list (pa_cons pe_str pa_nil)) (pa_cons pe_dnewK pa_nil)))
        (pg_tup rfl (pgs_cons (pg_name (i := 2) nd rfl (Or.inl rfl)) (pgs_cons (pg_name (i := 3) nd rfl (Or.inr rfl)) pgs_nil))))
      (pss_cons (ps_for PassesOwn.never rfl (pi_list (pe_callB (cr_sortSg rfl) rfl T.sorted (by decide +kernel) (pa_cons (pe_callTy (cr_setTx rfl) rfl T.set (by decide +kernel) (pa_cons (pe_join pe_str (pv 1)) pa_nil)) pa_nil))) (pg_name (i := 4) nd rfl (Or.inl rfl))
        (pss_one (ps_dput hu (pv 3) (pv 4) (pe_bm PySem.F.plainAttrs_list PySem.F.slot_list_pop PySem.F.type_list_pop mt_popAt (pv 2) (pa_cons (pe_call GP hr rfl DP.g DP.F.kp DP.b .nil pass0 (pa_cons (pv 0) (pa_cons
          (pe_ifExp (pt_cmpR op_gt (pe_call GP hr rfl DP.g DP.F.kp DP.b .nil pass0 (pa_cons (pv 0) (pa_cons pe_int pa_nil))) pe_int (nomark _)) pe_int (pLen T (pv 2))) pa_nil))) pa_nil)) rfl)))
      (pss_cons (ps_setLc (i := 5) (own := [("_law_piece", 8)]) (g := gName 8) (tt := tYes) (te := tM1 (rJoinK K) (tC (.str "")) (tLc (iStr (tVar 8)) (gName 4) tYes (tDGet (tVar 3) (tVar 4)) [4])) (by rfl) nd rfl rfl (sw_true rfl rfl rfl (by decide +kernel)) (pi_tup (pv 1))
          (blkOk_by (N := nNamed) (sc := defScope sLNamed) (by decide +kernel)) (fun _ _ _ _ _ => pg_name (i := 8) nd rfl (Or.inl rfl)) (fun _ _ _ _ _ => pts_nil)
          (fun _ _ _ _ _ => pe_join pe_str (pe_lc (own := [("_law_letter", 4)]) (g := gName 4) (tt := tYes) rfl nd (pi_str (pv 8)) (blkOk_by (N := nNamed) (sc := relS { kind := .function, names := [(".0", .local), ("_law_piece", .local), ("_law_names", .free)], isGenerator := false, isCoroutine := false } (defScope sLNamed)) (by decide +kernel)) (fun _ _ _ _ _ => pg_name (i := 4) nd rfl (Or.inl rfl)) (fun _ _ _ _ _ => pts_nil) (fun _ _ _ _ _ => pe_dget hu (pv 3) (pv 4) (fun _ _ => rfl)))))
      (pss_cons (ps_if (pt_cmpR op_eq (pe_call GP hr rfl DP.g DP.F.kp DP.b .nil pass0 (pa_cons (pv 0) (pa_cons pe_int pa_nil))) pe_int (nomark _))
        (pss_one (ps_setLc (i := 5) (own := [("_law_piece", 8)]) (g := gName 8) (tt := tYes) (by rfl) nd rfl rfl (sw_true rfl rfl rfl (by decide +kernel)) (pi_list (pv 5))
          (blkOk_by (N := nNamed) (sc := defScope sLNamed) (by decide +kernel)) (fun _ _ _ _ _ => pg_name (i := 8) nd rfl (Or.inl rfl)) (fun _ _ _ _ _ => pts_nil) (fun _ _ _ _ _ => pe_revTx (pv 8)))) pss_nil)
      (pss_cons (ps_set (i := 6) nd rfl (Or.inl rfl) (pe_lst pa_nil))
      (pss_cons (ps_for PassesOwn.never rfl (pi_range1 rfl T.rng (pa_cons (pLen T (pv 5)) pa_nil)) (pg_name (i := 7) nd rfl (Or.inl rfl))
        (pss_one (ps_expr (pe_bm PySem.F.plainAttrs_list PySem.F.slot_list_append PySem.F.type_list_append mt_append (pv 6) (pa_cons (pe_bm PySem.F.plainAttrs_list PySem.F.slot_list_pop PySem.F.type_list_pop mt_popAt (pv 5) (pa_cons
          (pe_call GP hr rfl DP.g DP.F.kp DP.b .nil pass0 (pa_cons (pv 0) (pa_cons (pLen T (pv 5)) pa_nil))) pa_nil)) pa_nil)))))
      (pss_one (ps_ret (pe_callTy call_tuple_of (by rfl) T.tup PyProof.Rows.boot_tuple (pa_cons (pv 6) pa_nil))))))))), ?_⟩
    have letl : ([97, 98, 99, 100, 101, 102, 103, 104] : List Nat).Nodup := by decide
    have letr : ∀ c ∈ ([97, 98, 99, 100, 101, 102, 103, 104] : List Nat), 97 ≤ c ∧ c ≤ 104 := by decide
    refine ⟨_, rfl, by decide +kernel, fun lf nlf => ?_⟩
    rw [letters_S]
    intro na nna
    refine ⟨by show 2 ≤ sizeLine; exact sz1 (by omega), fun p0 np0 => ?_⟩
    have hlf0 : (upd H lf (.lst ([97, 98, 99, 100, 101, 102, 103, 104].map fun c => tx [c]))) lf = some (.lst ([97, 98, 99, 100, 101, 102, 103, 104].map fun c => tx [c])) := upd_same
    have S1 : Same H (upd (upd (upd H lf (.lst ([97, 98, 99, 100, 101, 102, 103, 104].map fun c => tx [c]))) na (.dK [])) p0 (.tup [.ref lf, .ref na])) :=
      Same.new (Same.new (Same.upd nlf) ((Same.upd nlf).free nna)) ((Same.new (Same.upd nlf) ((Same.upd nlf).free nna)).free np0)
    have nna0 : H na = none := (Same.upd nlf).free nna
    have nln : lf ≠ na := ne_of_none hlf0 nna
    have nnp : na ≠ p0 := ne_of_none upd_same np0
    have nlp : lf ≠ p0 := ne_of_none (show (upd (upd H lf (.lst ([97, 98, 99, 100, 101, 102, 103, 104].map fun c => tx [c]))) na (.dK [])) lf = _ by rw [upd_ne nln]; exact hlf0) np0
    have hlf1 : (upd (upd (upd H lf (.lst ([97, 98, 99, 100, 101, 102, 103, 104].map fun c => tx [c]))) na (.dK [])) p0 (.tup [.ref lf, .ref na])) lf = some (.lst ([97, 98, 99, 100, 101, 102, 103, 104].map fun c => tx [c])) := by rw [upd_ne nlp, upd_ne nln]; exact hlf0
    have hna1 : (upd (upd (upd H lf (.lst ([97, 98, 99, 100, 101, 102, 103, 104].map fun c => tx [c]))) na (.dK [])) p0 (.tup [.ref lf, .ref na])) na = some (.dK []) := by rw [upd_ne nnp]; exact upd_same
    have hp1 : (upd (upd (upd H lf (.lst ([97, 98, 99, 100, 101, 102, 103, 104].map fun c => tx [c]))) na (.dK [])) p0 (.tup [.ref lf, .ref na])) p0 = some (.tup [.ref lf, .ref na]) := upd_same
    refine ⟨p0, _, rfl, SqT.of hp1, rfl, _, _, rfl, _, _, rfl, rfl, ?_⟩
    clear hp1
    obtain ⟨H1, eH⟩ : ∃ H1, H1 = upd (upd (upd H lf (.lst ([97, 98, 99, 100, 101, 102, 103, 104].map fun c => tx [c]))) na (.dK [])) p0 (.tup [.ref lf, .ref na]) := ⟨_, rfl⟩
    rw [← eH] at S1 hlf1 hna1
    show (tSeq _ _) _ _ (upd (upd (upd H lf (.lst ([97, 98, 99, 100, 101, 102, 103, 104].map fun c => tx [c]))) na (.dK [])) p0 (.tup [.ref lf, .ref na]))
    rw [← eH]
    clear eH
    obtain ⟨nf1, nf2⟩ := bag.ne nlf
    obtain ⟨na1, na2⟩ := bag.ne nna0
    have bag1 := bag.same S1
    have ht1 := S1 _ _ ht
    refine ⟨⟨_, rfl⟩, _, rfl, ?_⟩
    refine ⟨_, t, L.map SX.S, rfl, rfl, .inr (pcs_seq (SqT.of ht1)), pcs_size pc, ?_⟩
    rw [join0]
    refine ⟨L.flatten, rfl, by have := pcs_flat pc; omega, fun se l nse ndl hl => ⟨se, l, rfl, upd_same, ndl, pcs_few pc hl ndl, fun own ow hso pm now => ?_⟩⟩
    have ho := own_of hl hso pm
    obtain ⟨o1, o2, o3⟩ := own3 p3 ho
    have ond : own.Nodup := ho.1.imp fun z => Nat.ne_of_lt z
    have Sse : Same H1 (upd H1 se (SgO P w se l)) := Same.upd nse
    have now1 : H1 ow = none := Sse.free now
    have now0 : H ow = none := S1.free now1
    have S2 : Same H1 (upd (upd H1 se (SgO P w se l)) ow (.lst (own.map fun c => V.str (SX.S [c])))) := Same.new Sse now1
    have how2 : (upd (upd H1 se (SgO P w se l)) ow (.lst (own.map fun c => V.str (SX.S [c])))) ow = some (.lst (own.map fun c => tx [c])) := upd_same
    obtain ⟨nw1, nw2⟩ := bag.ne now0
    have nfw : lf ≠ ow := ne_of_none hlf1 now1
    have nnw : na ≠ ow := ne_of_none hna1 now1
    refine ⟨ow, rfl, ⟨_, SqL.of how2⟩, for_walk own.length (fun i σ H' => ∃ x4, σ = [some (.ref bg), some (.ref t), some (.ref lf), some (.ref na), x4, none, none, none, none] ∧ BagAt H' bg gr ∧ SameX bg gr H H' ∧ H' ow = some (.lst (own.map fun c => tx [c])) ∧
        ∃ (ren : Nat → Nat) (left : List Nat), H' lf = some (.lst (left.map fun c => tx [c])) ∧ H' na = some (.dK (dk tx ((own.take i).map fun c => (([c] : Tx), ([ren c] : Tx))))) ∧ left.length + i = 8 ∧ left.Nodup ∧ (∀ c ∈ left, 97 ≤ c ∧ c ≤ 104) ∧
          (∀ c ∈ own.take i, (97 ≤ ren c ∧ ren c ≤ 104) ∧ ren c ∉ left) ∧ ∀ a ∈ own.take i, ∀ b ∈ own.take i, ren a = ren b → a = b)
      ⟨_, rfl, bag1.same S2, SameX.of (S1.trans S2), how2, id, [97, 98, 99, 100, 101, 102, 103, 104], S2 _ _ hlf1, S2 _ _ hna1, rfl, letl, letr, fun c hc => by simp at hc, fun a ha => by simp at ha⟩
      (fun i σ H' hi q => ?_) (fun σ H' q => ?_) ?_ ?_⟩
    · obtain ⟨_, _, _, _, how, _⟩ := q
      exact ⟨_, tx [own[i]], SqL.of how, by rw [List.getElem?_map, List.getElem?_eq_getElem hi]; rfl⟩
    · obtain ⟨_, _, _, _, how, _⟩ := q
      exact ⟨_, SqL.of how, by simp⟩
    · rintro i y σ H3 H4 hi ⟨x4, rfl, bag3, X3, how3, ren, left, hlf3, hna3, hll, lnd, lrg, rrg, rinj⟩ ⟨rfl, hy⟩
      have ey := hy _ (SqL.of how3)
      rw [List.getElem?_map, List.getElem?_eq_getElem hi] at ey
      cases Option.some.inj ey
      have hi3 : i < 3 := by omega
      have er := List.getElem?_eq_getElem hi
      have cnew : own[i] ∉ own.take i := fun z => by
        obtain ⟨j, hj, e⟩ := List.mem_take_iff_getElem.mp z
        have := (List.getElem_inj ond).mp e
        omega
      have fin : ∀ (j : Nat) (hj : j < left.length) (H6 : Hp), BagAt H6 bg gr → SameX bg gr H4 H6 →
          ∃ H7, DPut (upd H6 lf (.lst ((left.map fun c => tx [c]).eraseIdx j))) na (tx [own[i]]) (tx [left[j]]) H7 ∧ (∃ x4, [some (V.ref bg), some (.ref t), some (.ref lf), some (.ref na), some (tx [own[i]]), none, none, none, none] = [some (V.ref bg), some (.ref t), some (.ref lf), some (.ref na), x4, none, none, none, none] ∧ BagAt H7 bg gr ∧ SameX bg gr H H7 ∧ H7 ow = some (.lst (own.map fun c => tx [c])) ∧
            ∃ (ren : Nat → Nat) (left : List Nat), H7 lf = some (.lst (left.map fun c => tx [c])) ∧ H7 na = some (.dK (dk tx ((own.take (i + 1)).map fun c => (([c] : Tx), ([ren c] : Tx))))) ∧ left.length + (i + 1) = 8 ∧ left.Nodup ∧ (∀ c ∈ left, 97 ≤ c ∧ c ≤ 104) ∧
              (∀ c ∈ own.take (i + 1), (97 ≤ ren c ∧ ren c ≤ 104) ∧ ren c ∉ left) ∧ ∀ a ∈ own.take (i + 1), ∀ b ∈ own.take (i + 1), ren a = ren b → a = b) := by
        intro j hj H6 bag6 X6
        have hna6 : (upd H6 lf (.lst ((left.map fun c => tx [c]).eraseIdx j))) na = some (.dK (dk tx ((own.take i).map fun c => (([c] : Tx), ([ren c] : Tx))))) := by rw [upd_ne nln.symm]; exact X6 _ _ na1 na2 hna3
        refine ⟨_, dput_dk (f := tx) (v := [left[j]]) hna6 (by simp; omega) [own[i]], _, rfl, (bag6.upd nf1 nf2).upd na1 na2, ((X3.trans X6).upd nlf).upd nna0, by rw [upd_ne nnw.symm, upd_ne nfw.symm]; exact X6 _ _ nw1 nw2 how3, fun x => if x = own[i] then left[j] else ren x, left.eraseIdx j, ?_, ?_, ?_, ?_, ?_, ?_, ?_⟩
        · rw [upd_ne nln, upd_same]
          congr 2
          exact erase_map ..
        · rw [upd_same, FT.aput_new (new_key (f := fun c => [ren c]) cnew), List.take_add_one, er, List.map_append]
          congr 3
          have e1 : (own.take i).map (fun c => (([c] : Tx), ([if c = own[i] then left[j] else ren c] : Tx))) = (own.take i).map fun c => (([c] : Tx), ([ren c] : Tx)) :=
            List.map_congr_left fun c hc => by rw [if_neg (fun z : c = own[i] => cnew (by rw [← z]; exact hc))]
          rw [e1]
          simp
        · rw [List.length_eraseIdx_of_lt hj]
          omega
        · exact lnd.sublist (List.eraseIdx_sublist left j)
        · exact fun c hc => lrg c ((List.eraseIdx_sublist left j).subset hc)
        · intro c hc
          show (97 ≤ (if c = own[i] then left[j] else ren c) ∧ (if c = own[i] then left[j] else ren c) ≤ 104) ∧ ¬ (if c = own[i] then left[j] else ren c) ∈ left.eraseIdx j
          rw [List.take_add_one, er] at hc
          rcases List.mem_append.mp hc with hc | hc
          · rw [if_neg (fun z : c = own[i] => cnew (by rw [← z]; exact hc))]
            exact ⟨(rrg c hc).1, fun z => (rrg c hc).2 ((List.eraseIdx_sublist left j).subset z)⟩
          · have : c = own[i] := by simpa using hc
            rw [if_pos this]
            refine ⟨lrg _ (List.getElem_mem hj), fun z => ?_⟩
            have pe := pull_perm _ _ hj
            have := pe.nodup_iff.mpr lnd
            exact (List.nodup_cons.mp this).1 z
        · intro a ha b hb e
          have e : (if a = own[i] then left[j] else ren a) = (if b = own[i] then left[j] else ren b) := e
          rw [List.take_add_one, er] at ha hb
          have key : ∀ x, x ∈ own.take i ++ (some own[i]).toList → x = own[i] ∨ (x ≠ own[i] ∧ x ∈ own.take i) := fun x hx => by
            by_cases c : x = own[i]
            · exact .inl c
            · rcases List.mem_append.mp hx with hx | hx
              · exact .inr ⟨c, hx⟩
              · exact absurd (by simpa using hx) c
          rcases key a ha with ea | ⟨ea, ha⟩ <;> rcases key b hb with eb | ⟨eb, hb⟩
          · rw [ea, eb]
          · simp only [if_pos ea, if_neg eb] at e
            exact absurd (e ▸ List.getElem_mem hj) (rrg b hb).2
          · simp only [if_neg ea, if_pos eb] at e
            exact absurd (e ▸ List.getElem_mem hj) (rrg a ha).2
          · simp only [if_neg ea, if_neg eb] at e
            exact rinj a ha b hb e
      have at_ : ∀ j (hj : j < left.length), (left.map fun c => tx [c])[j]? = some (tx [left[j]]) := fun j hj => by rw [List.getElem?_map, List.getElem?_eq_getElem hj]; rfl
      refine ⟨_, rfl, .inl ⟨rfl, _, SqL.of hlf3⟩, _, rfl, _, rfl, bg, gr, 4, rfl, bag3, by omega, by omega, fun r H5 r0 r1 bag5 X5 => ⟨_, _, rfl, rfl, _, rfl, ?_⟩⟩
      by_cases c0 : 0 < r
      · refine ifT c0 ⟨bg, gr, 3, rfl, bag5, by omega, by omega, fun r2 H6 r20 r21 bag6 X6 => ?_⟩
        obtain ⟨j, rfl⟩ : ∃ j : Nat, r2 = (j : Int) := ⟨r2.toNat, by omega⟩
        have hj : j < left.length := by omega
        obtain ⟨H7, h1, h2⟩ := fin j hj H6 bag6 (X5.trans X6)
        exact ⟨lf, _, _, j, _, rfl, rfl, (X5.trans X6) _ _ nf1 nf2 hlf3, by omega, by omega, by rw [List.length_map]; exact seqIndex_nat hj, at_ j hj, _, rfl, _, rfl, na, H7, rfl, h1, h2⟩
      · refine ifF c0 ⟨_, rfl, _, left.length, rfl, .inl ⟨_, SqL.of (X5 _ _ nf1 nf2 hlf3), by simp⟩, bg, gr, _, rfl, bag5, by omega, by omega, fun r2 H6 r20 r21 bag6 X6 => ?_⟩
        obtain ⟨j, rfl⟩ : ∃ j : Nat, r2 = (j : Int) := ⟨r2.toNat, by omega⟩
        have hj : j < left.length := by omega
        obtain ⟨H7, h1, h2⟩ := fin j hj H6 bag6 (X5.trans X6)
        exact ⟨lf, _, _, j, _, rfl, rfl, (X5.trans X6) _ _ nf1 nf2 hlf3, by omega, by omega, by rw [List.length_map]; exact seqIndex_nat hj, at_ j hj, _, rfl, _, rfl, na, H7, rfl, h1, h2⟩
    rintro σ H3 ⟨x4, rfl, bag3, X3, how3, ren, left, hlf3, hna3, hll, lnd, lrg, rrg, rinj⟩
    rw [List.take_length] at hna3 rrg rinj
    have ht3 := X3.tup bag ht
    have pf := pc.few
    -- what is left: the pieces are drawn one by one
    have rest : ∀ (fo : Addr) (P2 : List Tx) (H5 : Hp) (x8 : Option V), H5 fo = some (.lst (P2.map tx)) → Pcs P2 → fo ≠ bg → fo ≠ gr → H fo = none → BagAt H5 bg gr → SameX bg gr H H5 →
        (tSeq (tAsg (tLst tNil) (gName 6)) (tSeq (tFor (iRng1 (tCons (tCB (rLen K) (tCons (tVar 5) tNil)) tNil)) (gName 7) (tDrop (tBM K "list" rAppend (tVar 6) (tCons (tBM K "list" rPopAt (tVar 5) (tCons (tCall spLPick [] L2.E0 (tCons (tVar 0) (tCons (tCB (rLen K) (tCons (tVar 5) tNil)) tNil))) tNil)) tNil))))
          (tRet (tCB (fun xs H Q => ∃ p ys, xs = [.ref p] ∧ ((SqL K H p ys ∧ ∀ l, H l = none → Q (.ref l) (upd H l (.tup ys))) ∨ (SqT K H p ys ∧ Q (.ref p) H))) (tCons (tVar 6) tNil))))) { nx := fun _ H' => Q .non H', rt := Q }
          [some (.ref bg), some (.ref t), some (.ref lf), some (.ref na), x4, some (.ref fo), none, none, x8] H5 := by
      intro fo P2 H5 x8 hfo pc2 n1 n2 nfo bag5 X5
      have few2 := pc2.few
      refine ⟨Nat.zero_le _, fun ro nro => ?_⟩
      have nfr : fo ≠ ro := ne_of_none hfo nro
      obtain ⟨r1, r2⟩ := bag5.ne nro
      have nro0 : H ro = none := X5.free r1 r2 nro
      refine ⟨_, rfl, _, P2.length, rfl, .inl ⟨_, SqL.of (by rw [upd_ne nfr]; exact hfo), by simp⟩, _, rfl, by omega, by omega, ?_⟩
      refine for_walk P2.length (fun i σ H' => ∃ x7, σ = [some (.ref bg), some (.ref t), some (.ref lf), some (.ref na), x4, some (.ref fo), some (.ref ro), x7, x8] ∧ BagAt H' bg gr ∧ SameX bg gr H H' ∧ ∃ R G : List Tx, H' ro = some (.lst (R.map tx)) ∧ H' fo = some (.lst (G.map tx)) ∧ (R ++ G).Perm P2 ∧ R.length = i)
        ⟨_, rfl, bag5.upd r1 r2, X5.upd nro0, [], P2, upd_same, by rw [upd_ne nfr]; exact hfo, .refl _, rfl⟩ (fun i σ H' hi _ => by show i < ((P2.length : Nat) : Int).toNat; omega) (fun σ H' _ => by show ((P2.length : Nat) : Int).toNat ≤ _; omega) ?_ ?_
      · rintro i y σ H6 H7 hi ⟨x7, rfl, bag6, X6, R, G, hR, hG, pm, rl⟩ ⟨rfl, rfl⟩
        have pl := pm.length_eq
        rw [List.length_append] at pl
        refine ⟨_, rfl, .inl ⟨rfl, _, SqL.of hR⟩, _, rfl, .inl ⟨rfl, _, SqL.of hG⟩, _, rfl, _, rfl, _, G.length, rfl, .inl ⟨_, SqL.of hG, by simp⟩, bg, gr, _, rfl, bag6, by omega, by omega, fun r H8 r0 r9 bag8 X8 => ?_⟩
        obtain ⟨j, rfl⟩ : ∃ j : Nat, r = (j : Int) := ⟨r.toNat, by omega⟩
        have hj : j < G.length := by omega
        refine ⟨fo, _, _, j, tx G[j], rfl, rfl, X8 _ _ n1 n2 hG, by omega, by omega, by rw [List.length_map]; exact seqIndex_nat hj, by rw [List.getElem?_map, List.getElem?_eq_getElem hj]; rfl,
          ro, _, _, rfl, rfl, by rw [upd_ne nfr.symm]; exact X8 _ _ r1 r2 hR, by rw [List.length_map]; exact big_lt (by omega), _, rfl, (bag8.upd n1 n2).upd r1 r2, ((X6.trans X8).upd nfo).upd nro0, R ++ [G[j]], G.eraseIdx j, by rw [upd_same, List.map_append]; rfl, ?_, ?_, by rw [List.length_append, rl]; rfl⟩
        · rw [upd_ne nfr, upd_same]
          congr 2
          exact erase_map ..
        · rw [List.append_assoc]
          exact ((pull_perm _ _ hj).append_left R).trans pm
      · rintro σ H6 ⟨x7, rfl, bag6, X6, R, G, hR, hG, pm, rl⟩
        have pl := pm.length_eq
        rw [List.length_append] at pl
        have g0 : G = [] := List.length_eq_zero_iff.mp (by omega)
        subst g0
        rw [List.append_nil] at pm
        refine ⟨_, rfl, ro, _, rfl, .inl ⟨SqL.of hR, fun q nq => ?_⟩⟩
        obtain ⟨q1, q2⟩ := bag6.ne nq
        exact k R q _ (pc2.perm pm) upd_same (bag6.upd q1 q2) (X6.trans (SameX.of (Same.upd nq)))
    have gotc : ∀ c ∈ own, aget (own.map fun c => (([c] : Tx), ([ren c] : Tx))) [c] = some [ren c] := fun c hc => by
      refine FT.aget_mem ?_ (List.mem_map.mpr ⟨c, hc, rfl⟩)
      rw [List.map_map]
      exact map_nodup ond fun a _ b _ e => by simpa using e
    refine ⟨_, rfl, t, rfl, ⟨_, SqT.of ht3⟩, fun D nD => ?_⟩
    obtain ⟨d1, d2⟩ := bag3.ne nD
    have nD0 : H D = none := X3.free d1 d2 nD
    refine lc_allW L.length (fun i H' => Same H3 H' ∧ H' D = some (.lst ((L.take i).map fun p => tx (p.map ren)))) ⟨Same.upd nD, upd_same⟩
      (fun i H' hi q => ⟨_, tx L[i], SqT.of (q.1 _ _ ht3), by rw [List.getElem?_map, List.getElem?_eq_getElem hi]; rfl⟩) (fun H' q => ⟨_, SqT.of (q.1 _ _ ht3), by simp⟩) (fun i x H4 H5 hi q y => ?_) (fun H4 q => ?_)
    · obtain ⟨rfl, hy⟩ := y
      obtain ⟨S4, hD4⟩ := q
      have ex := hy _ (SqT.of (S4 _ _ ht3))
      have er := List.getElem?_eq_getElem hi
      rw [List.getElem?_map, er] at ex
      cases Option.some.inj ex
      have hp : L[i] ∈ L := List.getElem_mem hi
      have pl := pc.len _ hp
      have hna5 := S4 _ _ hna3
      refine ⟨rfl, ⟨_, rfl⟩, _, rfl, SX.S L[i], rfl, fun D2 nD2 => ?_⟩
      have nnD : na ≠ D2 := ne_of_none hna5 nD2
      have nDD : D ≠ D2 := ne_of_none hD4 nD2
      refine lc_mapS L[i] (fun c => tx [ren c]) (by omega) (fun j c e acc hz => ⟨rfl, _, rfl, _, rfl, na, tx [ren c], rfl, dget_some (f := tx) (.inl (by rw [upd_ne nnD]; exact hna5)) (gotc c ((ho.2 c).mpr ⟨_, hp, List.mem_of_getElem? e⟩)), lc_end hz rfl⟩) ?_
      have hD2 : (upd H5 D2 (.lst (L[i].map fun c => tx [ren c]))) D2 = some (.lst ((L[i].map ren).map fun c => tx [c])) := by rw [upd_same, List.map_map]; rfl
      obtain ⟨a9, q9, ys9, e1, e2, e3, e4, e5⟩ := join_signs (K := K) (Q := fun v H' => v = tx (L[i].map ren)) hD2 (by rw [List.length_map]; omega) rfl
      refine ⟨a9, q9, ys9, e1, e2, e3, e4, ?_⟩
      have e5' : V.str (Txt.join a9 ys9) = tx (L[i].map ren) := e5
      rw [e5']
      refine ⟨_, by rw [upd_ne nDD]; exact hD4, by rw [List.length_map, List.length_take]; exact big_lt (by omega), Same.new (S4.trans (Same.upd nD2)) nD, ?_⟩
      rw [upd_same, take_map_succ (f := fun p : Tx => tx (p.map ren)) er]
    · obtain ⟨S4, hD4⟩ := q
      rw [List.take_length] at hD4
      have pcr : Pcs (L.map fun p => p.map ren) := pc.ren ho rinj fun c hc => (rrg c hc).1
      have bag4 := bag3.same S4
      refine ⟨_, rfl, bg, gr, 2, rfl, bag4, by omega, by omega, fun r H6 r0 r1 bag6 X6 => ⟨rfl, _, rfl, ?_⟩⟩
      have hD6 : H6 D = some (.lst ((L.map fun p => p.map ren).map tx)) := (X6 _ _ d1 d2 hD4).trans (by rw [List.map_map]; rfl)
      have X06 := (X3.trans (SameX.of S4)).trans X6
      by_cases c : V.int r = V.int 0
      · refine ifT c ⟨_, rfl, D, rfl, ⟨_, SqL.of hD6⟩, fun D3 nD3 => ?_⟩
        obtain ⟨e1, e2⟩ := bag6.ne nD3
        refine lc_mapL (L.map fun p => p.map ren) tx (fun p => tx p.reverse) (SqL.of hD6) nD3 (by rw [List.length_map]; omega) (fun i p e acc hz => ⟨rfl, _, rfl, p, rfl, ?_, lc_end hz rfl⟩) ?_
        · have := pcr.len p (List.mem_of_getElem? e)
          exact sz1 (by omega)
        · refine rest D3 ((L.map fun p => p.map ren).map List.reverse) _ _ (by rw [upd_same]; simp only [List.map_map]; rfl) pcr.rev e1 e2 (X06.free e1 e2 nD3) (bag6.upd e1 e2) (X06.trans (SameX.of (Same.upd nD3)))
      · exact ifF c (rest D _ H6 _ hD6 pcr d1 d2 nD0 bag6 X06)
end
end FTW
end
section
set_option Elab.async false
set_option linter.all false
set_option maxRecDepth 100000
set_option maxHeartbeats 4000000
/-! the law's menus -/
namespace FTW
open PySem PySem.Spec PyProof.Rows L2 FTR
open FT (Tx Gr aget aput)
/-- written texts, written tuples of texts -/
def rdT : List Str → TA
  | [] => tNil
  | s :: r => tCons (tC (.str s)) (rdT r)
def rdM : List (List Str) → TA
  | [] => tNil
  | l :: r => tCons (tTup (rdT l)) (rdM r)
theorem rdT_ok {σ : L2.St} {H : Hp} : ∀ {l : List Str} {Q : List V → Hp → Prop}, Q (l.map V.str) H → rdT l σ H Q
  | [], _, h => h
  | s :: l, Q, h => rdT_ok (l := l) (Q := fun xs H2 => Q (.str s :: xs) H2) h
theorem rdM_ok {σ : L2.St} : ∀ {ms : List (List Str)} {H : Hp} {Q : List V → Hp → Prop}, (∀ l ∈ ms, l.length ≤ 1000) → (∀ (ts : List Addr) (H' : Hp), Same H H' → Paired (fun (l : List Str) (t : Addr) => H' t = some (.tup (l.map V.str))) ms ts → Q (ts.map V.ref) H') → rdM ms σ H Q
  | [], H, Q, _, h => h [] H (Same.refl H) .nil
  | l :: ms, H, Q, hl, h => by
    show rdT l σ H fun xs H1 => xs.length ≤ sizeLine ∧ ∀ p, H1 p = none → rdM ms σ (upd H1 p (.tup xs)) fun xs H2 => Q (.ref p :: xs) H2
    refine rdT_ok ⟨by rw [List.length_map]; exact sz1 (by have := hl l List.mem_cons_self; omega), fun p np => rdM_ok (fun m hm => hl m (List.mem_cons_of_mem _ hm)) fun ts H' S pr => ?_⟩
    exact h (p :: ts) H' ((Same.upd np).trans S) (.cons (S _ _ upd_same) pr)
theorem paired_mem {α β : Type} {R : α → β → Prop} {l : List α} {m : List β} (h : Paired R l m) {b : β} (hb : b ∈ m) : ∃ a ∈ l, R a b := by
  induction h with
  | nil => cases hb
  | cons r t ih =>
    rcases List.mem_cons.mp hb with e | hb
    · subst e
      exact ⟨_, List.mem_cons_self, r⟩
    · obtain ⟨a, ha, hr⟩ := ih hb
      exact ⟨a, List.mem_cons_of_mem _ ha, hr⟩
theorem paired_app {α β : Type} {R : α → β → Prop} {l l' : List α} {m m' : List β} (h : Paired R l m) (h' : Paired R l' m') : Paired R (l ++ l') (m ++ m') := by
  induction h with
  | nil => exact h'
  | cons r t ih => exact .cons r ih
theorem paired_imp {α β : Type} {R R' : α → β → Prop} {l : List α} {m : List β} (h : Paired R l m) (k : ∀ a b, R a b → R' a b) : Paired R' l m := by
  induction h with
  | nil => exact .nil
  | cons r t ih => exact .cons (k _ _ r) ih
def pc3b (P : List Tx) : Bool := decide (P ≠ []) && (decide (P.length ≤ 12) && (decide P.Nodup && P.all fun p => decide (p ≠ []) && (decide (p.length ≤ 8) && p.all fun c => decide (97 ≤ c) && decide (c ≤ 99))))
theorem pc3_of {P : List Tx} (h : pc3b P = true) : Pc3 P := by
  unfold pc3b at h
  simp only [Bool.and_eq_true, decide_eq_true_eq, List.all_eq_true] at h
  obtain ⟨h1, h2, h3, h4⟩ := h
  exact ⟨⟨h1, h2, h3, fun p hp => (h4 p hp).1, fun p hp => (h4 p hp).2.1, fun p hp c hc => ⟨((h4 p hp).2.2 c hc).1, Nat.le_trans ((h4 p hp).2.2 c hc).2 (by omega)⟩⟩, fun p hp c hc => ((h4 p hp).2.2 c hc).2⟩
/-- a menu: tuples of pieces -/
def menuB (ms : List (List Str)) : Bool := ms.all fun l => pc3b (l.map fun s => s.cps.toList) && decide (l.length ≤ 12)
theorem menu_of {ms : List (List Str)} (h : menuB ms = true) {l : List Str} (hl : l ∈ ms) : ∃ P : List Tx, l.map V.str = P.map tx ∧ Pc3 P := by
  have := List.all_eq_true.mp h l hl
  rw [Bool.and_eq_true] at this
  refine ⟨l.map fun s => s.cps.toList, ?_, pc3_of this.1⟩
  rw [List.map_map]
  exact List.map_congr_left fun s _ => congrArg V.str (SX.S_tl s).symm
theorem menu_len {ms : List (List Str)} (h : menuB ms = true) : ∀ l ∈ ms, l.length ≤ 1000 := fun l hl => by
  have := List.all_eq_true.mp h l hl
  rw [Bool.and_eq_true, decide_eq_true_eq] at this
  omega
def mF1 : List (List Str) := [["a"], ["aaa"], ["a", "bb"], ["aa", "b"], ["aa", "bb", "ab"], ["aa", "bbb", "ab"], ["aaa", "bb", "ab"]]
def mF2 : List (List Str) := [["aa", "bb", "abab"], ["a", "b", "cc"], ["a", "bb", "cc", "bc"], ["aa", "bb", "aba"]]
def mF3 : List (List Str) := [["aa", "bb", "cc", "ab", "bc", "ac"], ["a", "bbb", "bab"]]
def mS1 : List (List Str) := [["ab"], ["ab", "ba"], ["aa", "bab"], ["aa", "bb"], ["a", "b", "acb"], ["aab", "b"], ["abc"]]
def mS2 : List (List Str) := [["aa", "bb", "cc", "ab"], ["aaa", "bbb", "abab"], ["aabb"], ["aa", "bb", "cc"]]
theorem okF1 : menuB mF1 = true := by decide +kernel
theorem okF2 : menuB mF2 = true := by decide +kernel
theorem okF3 : menuB mF3 = true := by decide +kernel
theorem okS1 : menuB mS1 = true := by decide +kernel
theorem okS2 : menuB mS2 = true := by decide +kernel
abbrev sLFull : Stmt := top 42
abbrev sLScant : Stmt := top 43
theorem scLFull : FnScope ["_law_bag_here", "_law_menu"] ["_law_bag_here"] (defScope sLFull) := ⟨rfl, rfl, rfl, by decide +kernel, rfl, by decide +kernel, by decide +kernel⟩
theorem scLScant : FnScope ["_law_bag_here", "_law_menu"] ["_law_bag_here"] (defScope sLScant) := ⟨rfl, rfl, rfl, by decide +kernel, rfl, by decide +kernel, by decide +kernel⟩
def spLPieces : Sp := fun vs H Q _ => ∃ (bg gr : Addr), vs = [.ref bg] ∧ BagAt H bg gr ∧ ∀ P' t' H', Pcs P' → H' t' = some (.tup (P'.map tx)) → BagAt H' bg gr → SameX bg gr H H' → Q (.ref t') H'
abbrev tPieces (K : PySem.W.Frag) (e : Int) (te : TE) : TS := tRet (tCall spLNamed [] L2.E0 (tCons (tVar 0) (tCons (tCall spLMore [] L2.E0 (tCons (tVar 0) (tCons te (tCons (tC (.int e)) tNil)))) tNil)))
abbrev tSomeM (K : PySem.W.Frag) : TE := tCall (spLSome K) [] L2.E0 (tCons (tVar 0) (tCons (tVar 1) tNil))
/-- what a menu's items are -/
def Items (H : Hp) (xs : List V) : Prop := ∀ x ∈ xs, ∃ t P, x = .ref t ∧ H t = some (.tup (P.map tx)) ∧ Pc3 P
theorem Items.same {H H' : Hp} {xs : List V} (s : Same H H') (h : Items H xs) : Items H' xs := fun x hx => by
  obtain ⟨t, P, e, h1, h2⟩ := h x hx
  exact ⟨t, P, e, s _ _ h1, h2⟩
theorem Items.app {H : Hp} {xs ys : List V} (h : Items H xs) (h' : Items H ys) : Items H (xs ++ ys) := fun x hx => by
  rcases List.mem_append.mp hx with hx | hx
  · exact h x hx
  · exact h' x hx
theorem Items.of {H : Hp} {ms : List (List Str)} {ts : List Addr} (ok : menuB ms = true) (pr : Paired (fun (l : List Str) (t : Addr) => H t = some (.tup (l.map V.str))) ms ts) : Items H (ts.map V.ref) := fun x hx => by
  obtain ⟨t, ht, rfl⟩ := List.mem_map.mp hx
  obtain ⟨l, hl, e⟩ := paired_mem pr ht
  obtain ⟨P, e2, p3⟩ := menu_of ok hl
  exact ⟨t, P, rfl, by rw [← e2]; exact e, p3⟩
theorem cons_ok {ta : TE} {tr : TA} {σ : L2.St} {H : Hp} {Q : List V → Hp → Prop} (h : ta σ H fun x H1 => tr σ H1 fun xs H2 => Q (x :: xs) H2) : tCons ta tr σ H Q := h
theorem rdL_ok {σ : L2.St} {H : Hp} {l : List Str} {Q : VK} (hl : l.length ≤ 1000) (k : ∀ q, H q = none → Q (.ref q) (upd H q (.lst (l.map V.str)))) : tLst (rdT l) σ H Q := by
  show rdT l σ H fun xs H1 => xs.length ≤ sizeLine ∧ ∀ p, H1 p = none → Q (.ref p) (upd H1 p (.lst xs))
  exact rdT_ok ⟨by rw [List.length_map]; exact sz1 (by omega), k⟩
theorem menu1 {ms : List (List Str)} {i : Nat} {u : TS} {D : Ends} {σ : L2.St} {H : Hp} (ok : menuB ms = true) (small : ms.length ≤ 100)
    (k : ∀ (ml : Addr) (H' : Hp) (ys : List V), ys.length = ms.length → Same H H' → H ml = none → H' ml = some (.lst ys) → Items H' ys → u D (σ.set i (some (.ref ml))) H') : tSeq (tAsg (tLst (rdM ms)) (gName i)) u D σ H := by
  show rdM ms σ H fun xs H1 => xs.length ≤ sizeLine ∧ ∀ p, H1 p = none → u D (σ.set i (some (.ref p))) (upd H1 p (.lst xs))
  refine rdM_ok (menu_len ok) fun ts H1 S1 pr => ?_
  have l : ts.length = ms.length := (Paired.length pr).symm
  refine ⟨by rw [List.length_map, l]; exact sz1 (by omega), fun m1 nm => ?_⟩
  exact k m1 _ _ (by rw [List.length_map, l]) (S1.trans (Same.upd nm)) (S1.free nm) upd_same ((Items.of ok pr).same (Same.upd nm))
theorem menu2 {ms : List (List Str)} {i : Nat} {u : TS} {D : Ends} {σ : L2.St} {H : Hp} {m0 : Addr} {xs : List V} (ok : menuB ms = true) (small : ms.length ≤ 100) (at_ : σ[i]? = some (some (.ref m0))) (h0 : H m0 = some (.lst xs)) (few : xs.length ≤ 100) (it : Items H xs)
    (k : ∀ (ml : Addr) (H' : Hp) (ys : List V), ys.length = xs.length + ms.length → Same H H' → H ml = none → H' ml = some (.lst ys) → Items H' ys → u D (σ.set i (some (.ref ml))) H') : tSeq (tAsg (tOp rCat (tVar i) (tLst (rdM ms))) (gName i)) u D σ H := by
  show ∃ v, σ[i]? = some (some v) ∧ rdM ms σ H fun ys H1 => ys.length ≤ sizeLine ∧ ∀ p, H1 p = none → rCat v (.ref p) (upd H1 p (.lst ys)) fun x H2 => u D (σ.set i (some x)) H2
  refine ⟨_, at_, rdM_ok (menu_len ok) fun ts H1 S1 pr => ?_⟩
  have l : ts.length = ms.length := (Paired.length pr).symm
  refine ⟨by rw [List.length_map, l]; exact sz1 (by omega), fun m1 nm => ⟨m0, m1, _, _, rfl, rfl, (S1.trans (Same.upd nm)) _ _ h0, upd_same, by rw [List.length_map, l]; exact sz1 (by omega), fun m2 nm2 => ?_⟩⟩
  have S2 : Same H1 (upd (upd H1 m1 (.lst (ts.map V.ref))) m2 (.lst (xs ++ ts.map V.ref))) := Same.new (Same.upd nm) ((Same.upd nm).free nm2)
  exact k m2 _ _ (by rw [List.length_append, List.length_map, l]) (S1.trans S2) (S1.free ((Same.upd nm).free nm2)) upd_same ((it.same (S1.trans S2)).app ((Items.of ok pr).same S2))
theorem pieces_k {K : PySem.W.Frag} {bg gr ml : Addr} {H0 H : Hp} {xs : List V} {e : Int} {Q : VK} {D : Ends} (rt : D.rt = Q) (hml : H ml = some (.lst xs)) (ne : xs ≠ []) (few : xs.length ≤ 1000) (hx : Items H xs) (bag : BagAt H bg gr) (n1 : ml ≠ bg) (n2 : ml ≠ gr) (e0 : 0 ≤ e) (e1 : e ≤ 100) (X0 : SameX bg gr H0 H)
    (k : ∀ P' t' H', Pcs P' → H' t' = some (.tup (P'.map tx)) → BagAt H' bg gr → SameX bg gr H0 H' → Q (.ref t') H') : tPieces K e (tSomeM K) D [some (.ref bg), some (.ref ml)] H := by
  refine ⟨_, rfl, _, rfl, _, rfl, _, rfl, bg, gr, ml, xs, rfl, bag, n1, n2, .inl hml, ne, few, fun x H1 hx1 bag1 X1 => ?_⟩
  obtain ⟨t, P, rfl, ht, p3⟩ := hx x hx1
  refine ⟨bg, gr, t, e, P, rfl, bag1, X1.tup bag ht, p3, e0, e1, fun P1 t1 H2 p31 ht1 bag2 X2 => ⟨bg, gr, t1, P1, rfl, bag2, ht1, p31, fun P2 t2 H3 pc2 ht2 bag3 X3 => ?_⟩⟩
  show D.rt _ _
  rw [rt]
  exact k P2 t2 H3 pc2 ht2 bag3 (((X0.trans X1).trans X2).trans X3)
section
variable {P : Program} {w : World} {K : PySem.W.Frag} {mg : Str → Option Value} {base : Heap}
theorem ok_lfull {f : Addr} {fd : FuncData} (F : Fun K "_law_full" "_law_full" sLFull f fd) (hS : Has P w K mg base CX0 2 sLSome "_law_some" ["_law_bag_here", "_law_things"] (spLSome K))
    (hM : Has P w K mg base CX0 3 sLMore "_law_more" ["_law_bag_here", "_law_pieces", "_law_most"] spLMore) (hN : Has P w K mg base CX0 2 sLNamed "_law_named" ["_law_bag_here", "_law_pieces"] spLNamed) :
    FnOk P w K mg base CX0 4 f fd ["_law_bag_here"] spLPieces := by
  obtain ⟨fS, fdS, DS, GS⟩ := hS
  obtain ⟨fM, fdM, DM, GM⟩ := hM
  obtain ⟨fN, fdN, DN, GN⟩ := hN
  refine F.ok scLFull (fun vs H Q E h => ?_) (fun cdv A outer s H vs Q E hr h => ?_)
  · obtain ⟨_, _, rfl, _⟩ := h
    rfl
  · obtain ⟨bg, gr, rfl, bag, k⟩ := h
    have nd := scLFull.nd
    refine ⟨tSeq (tAsg (tLst (rdM mF1)) (gName 1)) (tSeq (tAsg (tOp rCat (tVar 1) (tLst (rdM mF2))) (gName 1)) (tSeq (tAsg (tOp rCat (tVar 1) (tLst (rdM mF3))) (gName 1)) (tPieces K 2 (tSomeM K)))),
      pss_cons (ps_set (i := 1) nd rfl (Or.inl rfl) (pe_lst (pa_cons (pe_tup (pa_cons pe_str pa_nil)) (pa_cons (pe_tup (pa_cons pe_str pa_nil)) (pa_cons (pe_tup (pa_cons pe_str (pa_cons pe_str pa_nil))) (pa_cons (pe_tup (pa_cons pe_str (pa_cons pe_str pa_nil))) (pa_cons (pe_tup (pa_cons pe_str (pa_cons pe_str (pa_cons pe_str pa_nil)))) (pa_cons (pe_tup (pa_cons pe_str (pa_cons pe_str (pa_cons pe_str pa_nil)))) (pa_cons (pe_tup (pa_cons pe_str (pa_cons pe_str (pa_cons pe_str pa_nil)))) pa_nil)))))))))
      (pss_cons (ps_set (i := 1) nd rfl (Or.inl rfl) (pe_op op_cat (pv 1) (pe_lst (pa_cons (pe_tup (pa_cons pe_str (pa_cons pe_str (pa_cons pe_str pa_nil)))) (pa_cons (pe_tup (pa_cons pe_str (pa_cons pe_str (pa_cons pe_str pa_nil)))) (pa_cons (pe_tup (pa_cons pe_str (pa_cons pe_str (pa_cons pe_str (pa_cons pe_str pa_nil))))) (pa_cons (pe_tup (pa_cons pe_str (pa_cons pe_str (pa_cons pe_str pa_nil)))) pa_nil)))))))
      (pss_cons (ps_set (i := 1) nd rfl (Or.inl rfl) (pe_op op_cat (pv 1) (pe_lst (pa_cons (pe_tup (pa_cons pe_str (pa_cons pe_str (pa_cons pe_str (pa_cons pe_str (pa_cons pe_str (pa_cons pe_str pa_nil))))))) (pa_cons (pe_tup (pa_cons pe_str (pa_cons pe_str (pa_cons pe_str pa_nil)))) pa_nil)))))
      (pss_one (ps_ret (pe_call GN (hr.mono (by decide)) rfl DN.g DN.F.kp DN.b .nil pass0 (pa_cons (pv 0) (pa_cons (pe_call GM hr rfl DM.g DM.F.kp DM.b .nil pass0 (pa_cons (pv 0) (pa_cons (pe_call GS (hr.mono (by decide)) rfl DS.g DS.F.kp DS.b .nil pass0 (pa_cons (pv 0) (pa_cons (pv 1) pa_nil))) (pa_cons pe_int pa_nil)))) pa_nil))))))), ?_⟩
    refine menu1 okF1 (by decide) fun m1 H1 y1 l1 S1 n1 h1 it1 => ?_
    have l1 : y1.length = 7 := l1
    refine menu2 okF2 (by decide) rfl h1 (by omega) it1 fun m2 H2 y2 l2 S2 n2 h2 it2 => ?_
    have l2 : y2.length = y1.length + 4 := l2
    refine menu2 okF3 (by decide) rfl h2 (by omega) it2 fun m3 H3 y3 l3 S3 n3 h3 it3 => ?_
    have l3 : y3.length = y2.length + 2 := l3
    have S03 := (S1.trans S2).trans S3
    have nm0 : H m3 = none := (S1.trans S2).free n3
    obtain ⟨e1, e2⟩ := bag.ne nm0
    exact pieces_k rfl h3 (by intro z; rw [z, List.length_nil] at l3; omega) (by omega) it3 (bag.same S03) e1 e2 (by decide) (by decide) (SameX.of S03) k
theorem ok_lscant {f : Addr} {fd : FuncData} (F : Fun K "_law_scant" "_law_scant" sLScant f fd) (hP : Has P w K mg base CX0 1 sLPick "_law_pick" ["_law_bag_here", "_law_many"] spLPick) (hS : Has P w K mg base CX0 2 sLSome "_law_some" ["_law_bag_here", "_law_things"] (spLSome K))
    (hM : Has P w K mg base CX0 3 sLMore "_law_more" ["_law_bag_here", "_law_pieces", "_law_most"] spLMore) (hN : Has P w K mg base CX0 2 sLNamed "_law_named" ["_law_bag_here", "_law_pieces"] spLNamed) :
    FnOk P w K mg base CX0 4 f fd ["_law_bag_here"] spLPieces := by
  obtain ⟨fP, fdP, DP, GP⟩ := hP
  obtain ⟨fS, fdS, DS, GS⟩ := hS
  obtain ⟨fM, fdM, DM, GM⟩ := hM
  obtain ⟨fN, fdN, DN, GN⟩ := hN
  refine F.ok scLScant (fun vs H Q E h => ?_) (fun cdv A outer s H vs Q E hr h => ?_)
  · obtain ⟨_, _, rfl, _⟩ := h
    rfl
  · obtain ⟨bg, gr, rfl, bag, k⟩ := h
    have nd := scLScant.nd
    refine ⟨tSeq (tAsg (tLst (rdM mS1)) (gName 1)) (tSeq (tAsg (tOp rCat (tVar 1) (tLst (rdM mS2))) (gName 1)) (tSeq (tIfS (tTest (tOp rEq (tCall spLPick [] L2.E0 (tCons (tVar 0) (tCons (tC (.int 3)) tNil))) (tC (.int 0))))
        (tPieces K 4 (tTup (tCons (tOp (fun x y H Q => ∃ i j, x = .str i ∧ y = .str j ∧ i.length + j.length ≤ sizeLine ∧ Q (.str (i ++ j)) H) (tC (.str "a")) (tCall (spLSome K) [] L2.E0 (tCons (tVar 0) (tCons (tLst (rdT ["b", "bc", "bb", "ab"])) tNil)))) tNil))) tNext) (tPieces K 1 (tSomeM K)))),
      pss_cons (ps_set (i := 1) nd rfl (Or.inl rfl) (pe_lst (pa_cons (pe_tup (pa_cons pe_str pa_nil)) (pa_cons (pe_tup (pa_cons pe_str (pa_cons pe_str pa_nil))) (pa_cons (pe_tup (pa_cons pe_str (pa_cons pe_str pa_nil))) (pa_cons (pe_tup (pa_cons pe_str (pa_cons pe_str pa_nil))) (pa_cons (pe_tup (pa_cons pe_str (pa_cons pe_str (pa_cons pe_str pa_nil)))) (pa_cons (pe_tup (pa_cons pe_str (pa_cons pe_str pa_nil))) (pa_cons (pe_tup (pa_cons pe_str pa_nil)) pa_nil)))))))))
      (pss_cons (ps_set (i := 1) nd rfl (Or.inl rfl) (pe_op op_cat (pv 1) (pe_lst (pa_cons (pe_tup (pa_cons pe_str (pa_cons pe_str (pa_cons pe_str (pa_cons pe_str pa_nil))))) (pa_cons (pe_tup (pa_cons pe_str (pa_cons pe_str (pa_cons pe_str pa_nil)))) (pa_cons (pe_tup (pa_cons pe_str pa_nil)) (pa_cons (pe_tup (pa_cons pe_str (pa_cons pe_str (pa_cons pe_str pa_nil)))) pa_nil)))))))
      (pss_cons (ps_if (pt_cmpR op_eq (pe_call GP (hr.mono (by decide)) rfl DP.g DP.F.kp DP.b .nil pass0 (pa_cons (pv 0) (pa_cons pe_int pa_nil))) pe_int (nomark _))
        (pss_one (ps_ret (pe_call GN (hr.mono (by decide)) rfl DN.g DN.F.kp DN.b .nil pass0 (pa_cons (pv 0) (pa_cons (pe_call GM hr rfl DM.g DM.F.kp DM.b .nil pass0 (pa_cons (pv 0) (pa_cons (pe_tup (pa_cons (pe_op op_add_str pe_str (pe_call GS (hr.mono (by decide)) rfl DS.g DS.F.kp DS.b .nil pass0 (pa_cons (pv 0) (pa_cons (pe_lst (pa_cons pe_str (pa_cons pe_str (pa_cons pe_str (pa_cons pe_str pa_nil))))) pa_nil)))) pa_nil)) (pa_cons pe_int pa_nil)))) pa_nil))))) pss_nil)
      (pss_one (ps_ret (pe_call GN (hr.mono (by decide)) rfl DN.g DN.F.kp DN.b .nil pass0 (pa_cons (pv 0) (pa_cons (pe_call GM hr rfl DM.g DM.F.kp DM.b .nil pass0 (pa_cons (pv 0) (pa_cons (pe_call GS (hr.mono (by decide)) rfl DS.g DS.F.kp DS.b .nil pass0 (pa_cons (pv 0) (pa_cons (pv 1) pa_nil))) (pa_cons pe_int pa_nil)))) pa_nil))))))), ?_⟩
    have len : ∀ {l : List V}, l.length ≤ 100 → l.length ≤ sizeLine := fun h => sz1 (by omega)
    refine menu1 okS1 (by decide) fun m1 H1 y1 l1 S1 q1 h1 it1 => ?_
    have l1 : y1.length = 7 := l1
    refine menu2 okS2 (by decide) rfl h1 (by omega) it1 fun m3 H3 y3 l3 S2 q2 hm3 it3 => ?_
    have l3 : y3.length = y1.length + 4 := l3
    have S03 := S1.trans S2
    have nm30 : H m3 = none := S1.free q2
    obtain ⟨n1, n2⟩ := bag.ne nm30
    have bag3 := bag.same S03
    refine ⟨_, rfl, bg, gr, 3, rfl, bag3, by omega, by omega, fun r H5 r0 r1 bag5 X5 => ⟨rfl, _, rfl, ?_⟩⟩
    have X05 := (SameX.of (bg := bg) (gr := gr) S03).trans X5
    by_cases c : V.int r = V.int 0
    · refine ifT c ⟨_, rfl, _, rfl, _, rfl, cons_ok (rdL_ok (l := ["b", "bc", "bb", "ab"]) (by decide) fun q nq => ?_)⟩
      obtain ⟨q1, q2⟩ := bag5.ne nq
      refine ⟨bg, gr, q, _, rfl, bag5.upd q1 q2, q1, q2, .inl upd_same, by simp, by simp, fun x H6 hx bag6 X6 => ?_⟩
      have ex : ∃ p : Tx, x = tx p ∧ pc3b [97 :: p] = true := by
        obtain ⟨s, hs, rfl⟩ := List.mem_map.mp hx
        refine ⟨s.cps.toList, congrArg V.str (SX.S_tl s).symm, ?_⟩
        have all : (["b", "bc", "bb", "ab"] : List Str).all (fun s => pc3b [97 :: s.cps.toList]) = true := by decide +kernel
        exact List.all_eq_true.mp all s hs
      obtain ⟨p, rfl, pb⟩ := ex
      have p3 := pc3_of pb
      have pl := p3.1.len _ List.mem_cons_self
      have ea : ("a" : Str) = SX.S [97] := by decide +kernel
      refine ⟨"a", SX.S p, rfl, rfl, by rw [ea, SX.S_len, SX.S_len]; simp at pl ⊢; exact sz1 (by omega), by show 1 ≤ sizeLine; exact sz1 (by omega), fun t nt => ?_⟩
      obtain ⟨t1, t2⟩ := bag6.ne nt
      have X06 := (X05.trans (SameX.of (Same.upd nq))).trans X6
      refine ⟨bg, gr, t, 4, [97 :: p], rfl, bag6.upd t1 t2, ?_, p3, by decide, by decide, fun P1 t3 H7 p31 ht1 bag7 X7 => ⟨bg, gr, t3, P1, rfl, bag7, ht1, p31, fun P2 t4 H8 pc2 ht2 bag8 X8 => k P2 t4 H8 pc2 ht2 bag8 (((X06.trans (SameX.of (Same.upd nt))).trans X7).trans X8)⟩⟩
      rw [upd_same, ea]
      exact congrArg (fun z => some (HO.tup [V.str z])) (add_S [97] p)
    · refine ifF c ?_
      exact pieces_k rfl (X5 _ _ n1 n2 hm3) (by intro z; rw [z, List.length_nil] at l3; omega) (by omega) (fun x hx => by
        obtain ⟨t, P, e, h1, h2⟩ := it3 x hx
        exact ⟨t, P, e, X5.tup bag3 h1, h2⟩) bag5 n1 n2 (by decide) (by decide) X05 k
end
end FTW
end
section
set_option Elab.async false
set_option linter.all false
set_option maxRecDepth 100000
set_option maxHeartbeats 4000000
/-! the law -/
namespace FTW
open PySem PySem.Spec PyProof.Rows L2 FTR
open FT (Tx Gr aget aput)
abbrev sLaw : Stmt := top 52
abbrev nLaw : List Str := ["_law_script", "_law_bag_here", "_law_turn", "_law_pieces", "_law_book", "_law_graph_here", "_law_longest_here", "_law_own_here", "_law_many", "_law_pair", "_law_every", "_law_due", "_law_bad", "_law_which", "_law_piece", "_law_letter", "_law_text"]
theorem scLaw : FnScope nLaw ["_law_script"] (defScope sLaw) := ⟨rfl, rfl, rfl, by decide +kernel, rfl, by decide +kernel, by decide +kernel⟩
def spLaw (K : PySem.W.Frag) : Sp := fun vs H Q _ => ∃ (a : Addr) (ns : List Int), vs = [.ref a] ∧ SqL K H a (ns.map V.int) ∧ ns.length ≤ 63 ∧ ∀ H', Q (.bl true) H'
def BookMk (P : Program) (w : World) (K : PySem.W.Frag) (mg : Str → Option Value) (base : Heap) (C : Addr) : Prop := mg "Book" = some (.ref C) ∧ ∃ f fd, Mk K C f ∧ Binds K fd ["self", "pieces"] [] ∧ FnOk P w K mg base CX0 3 f fd ["self", "pieces"] (spInit K C)
theorem ne_same {K : PySem.W.Frag} {H : Hp} {x y : V} {d : PyData} {Q : VK} (hx : Dp K H x d) (hy : Dp K H y d) (s : SeqAt.shaped d = true) (q : Q (.bl false) H) : rNeD K x y H Q := by
  refine ⟨d, d, hx, hy, s, s, ?_⟩
  rw [SeqAt.eqv_refl d (SeqAt.canLay_of_shaped s)]
  exact q
theorem eq_same {K : PySem.W.Frag} {H : Hp} {x y : V} {d : PyData} {Q : VK} (hx : Dp K H x d) (hy : Dp K H y d) (s : SeqAt.shaped d = true) (q : Q (.bl true) H) : rEqD K x y H Q := by
  refine ⟨d, d, hx, hy, s, s, ?_⟩
  rw [SeqAt.eqv_refl d (SeqAt.canLay_of_shaped s)]
  exact q
theorem seq_asg {te : TE} {g : TG} {u : TS} {D : Ends} {σ : L2.St} {H : Hp} (h : te σ H fun x H1 => g x σ H1 (u D)) : tSeq (tAsg te g) u D σ H := h
theorem ite_same {c : Bool} {A : Prop} (h : A) : if c = true then A else A := by
  split <;> exact h
/-- the law's longest, as one of two -/
def LV (g : Gr) (lv : V) : Prop := (¬ Ends_ g ∧ lv = .non) ∨ (Ends_ g ∧ ∃ h, LongIs g h ∧ lv = .int h)
def spLLong2 : Sp := fun vs H Q _ => ∃ (d : Addr) (g : Gr) (P : List Tx) (own : List Nat), vs = [.ref d] ∧ LGraphAt H d g ∧ FT.Whole P own g ∧ g.length ≤ 100 ∧ own.length ≤ 8 ∧ ∀ lv H', LV g lv → Same H H' → Q lv H'
theorem long2 : ∀ vs H Q E, spLLong2 vs H Q E → spLLong vs H Q E := fun vs H Q E ⟨d, g, P, own, h1, h2, h3, h4, h5, k⟩ =>
  ⟨d, g, P, own, h1, h2, h3, h4, h5, fun H' s => ⟨fun c => k _ H' (.inl ⟨c, rfl⟩) s, fun c h hh => k _ H' (.inr ⟨c, h, hh, rfl⟩) s⟩⟩
/-- the law's list of all, or that they are too many -/
def EvAt (g : Gr) (H : Hp) (ev : V) : Prop := (FT.FreeRes g none ∧ ev = .non) ∨ ∃ l p, FT.FreeRes g (some l) ∧ ev = .ref p ∧ H p = some (.lst (l.map tx))
theorem EvAt.same {g : Gr} {H H' : Hp} {ev : V} (s : Same H H') (h : EvAt g H ev) : EvAt g H' ev := by
  rcases h with h | ⟨l, p, h1, h2, h3⟩
  · exact .inl h
  · exact .inr ⟨l, p, h1, h2, s _ _ h3⟩
def spLAll2 : Sp := fun vs H Q _ => ∃ (d : Addr) (g : Gr) (P : List Tx) (own : List Nat), vs = [.ref d, .int 3000] ∧ LGraphAt H d g ∧ FT.Whole P own g ∧ g.length ≤ 100 ∧ own.length ≤ 8 ∧ ∀ ev H', EvAt g H' ev → Same H H' → Q ev H'
theorem all2 : ∀ vs H Q E, spLAll2 vs H Q E → spLAll vs H Q E := fun vs H Q E ⟨d, g, P, own, h1, h2, h3, h4, h5, k⟩ =>
  ⟨d, g, P, own, h1, h2, h3, h4, h5, fun H' s hn => k _ H' (.inl ⟨hn, rfl⟩) s, fun H' l p s hl hp _ => k _ H' (.inr ⟨l, p, hl, rfl, hp⟩) s⟩
def DuAt (H : Hp) (ev : V) (du : Addr) : Prop := (ev = .non ∧ H du = some (.tup [.str "many", .int 3000])) ∨ ∃ p, ev = .ref p ∧ H du = some (.tup [.str "told", .ref p])
theorem DuAt.same {H H' : Hp} {ev : V} {du : Addr} (s : Same H H') (h : DuAt H ev du) : DuAt H' ev du := by
  rcases h with ⟨h1, h2⟩ | ⟨p, h1, h2⟩
  · exact .inl ⟨h1, s _ _ h2⟩
  · exact .inr ⟨p, h1, s _ _ h2⟩
theorem due_rd {g : Gr} {ev : V} {H : Hp} {σ : L2.St} {Q : VK} (at10 : σ[10]? = some (some ev)) (hev : EvAt g H ev) (k : ∀ du H', Same H H' → DuAt H' ev du → Q (.ref du) H') :
    tIf (tTest (tOp (fun x y H Q => y = .non ∧ Q (.bl (decide (x = .non))) H) (tVar 10) (tC .non))) (tTup (tCons (tC (.str "many")) (tCons (tC (.int 3000)) tNil))) (tTup (tCons (tC (.str "told")) (tCons (tVar 10) tNil))) σ H Q := by
  have two : ∀ {a b : V}, [a, b].length ≤ sizeLine := fun {a b} => sz1 (by show 2 ≤ 100000; omega)
  rcases hev with ⟨_, rfl⟩ | ⟨l, p, _, rfl, hp⟩
  · exact ⟨_, at10, rfl, _, rfl, ifT rfl ⟨two, fun du nd => k du _ (Same.upd nd) (.inl ⟨rfl, upd_same⟩)⟩⟩
  · exact ⟨_, at10, rfl, _, rfl, ifF (by intro z; cases z) ⟨_, at10, two, fun du nd => k du _ (Same.upd nd) (.inr ⟨p, rfl, upd_same⟩)⟩⟩
/-- what the first telling is -/
def FreeTold (g : Gr) (H H' : Hp) (t : Addr) : Prop := (FT.FreeRes g none ∧ Told H H' t (.str "many") (.int 3000)) ∨ ∃ l p, FT.FreeRes g (some l) ∧ H' p = some (.lst (l.map tx)) ∧ Told H H' t (.str "told") (.ref p)
theorem told0_split {g : Gr} {H H' : Hp} {t : Addr} {A B : Prop} (yE : Ends_ g) (k : FreeTold g H H' t → A) : (¬ Ends_ g → B → A) ∧ (Ends_ g → (∀ l p, FT.FreeRes g (some l) → H' p = some (.lst (l.map tx)) → H p = none → Told H H' t (.str "told") (.ref p) → A) ∧ (FT.FreeRes g none → Told H H' t (.str "many") (.int 3000) → A)) :=
  ⟨fun c => absurd yE c, fun _ => ⟨fun l p h1 h2 _ h3 => k (.inr ⟨l, p, h1, h2, h3⟩), fun h1 h2 => k (.inl ⟨h1, h2⟩)⟩⟩
/-- the texts that are told are letters' -/
theorem alls_run {P : List Tx} {own : List Nat} {g : Gr} (W : FT.Whole P own g) : ∀ (k : Nat) (t : Tx), t ∈ FT.alls g k → ∃ f, FT.Run P own t f
  | 0, _, h => nomatch h
  | k + 1, t, h => by
    rcases List.mem_append.mp h with h | h
    · exact alls_run W k t h
    · obtain ⟨⟨t', f⟩, h1, rfl⟩ := List.mem_map.mp h
      exact ⟨f, (FT.lay_run W k t' f h1).1⟩
theorem free_low {P : List Tx} {g : Gr} {l : List Tx} (pc : Pcs P) (W : FT.Whole P (ownOf P) g) (h : FT.FreeRes g (some l)) : (∀ t ∈ l, ∀ c ∈ t, c < 1114112) ∧ (∀ t ∈ l, (∀ p ∈ P, ¬ p <:+: t)) ∧ l.length ≤ 3000 := by
  obtain ⟨k, _, rfl, hl⟩ := h
  refine ⟨fun t ht c hc => ?_, fun t ht => (FT.alls_free W pc.ne k t ht).1, hl⟩
  obtain ⟨f, hf⟩ := alls_run W k t ht
  obtain ⟨p, hp, hm⟩ := ((own_ownOf pc).2 c).mp ((hf.known pc.ne).let_ c hc)
  have := pc.let_ p hp c hm
  omega
abbrev dTx (l : List Tx) : PyData := .list (l.map fun t => PyData.str (SX.S t))
theorem lay_tx : ∀ {l : List Tx}, (∀ t ∈ l, ∀ c ∈ t, c < 1114112) → PyData.canLayAll0 (l.map fun t => PyData.str (SX.S t)) = true
  | [], _ => rfl
  | t :: l, h => by
    show (PyData.canLay0 (.str (SX.S t)) && PyData.canLayAll0 (l.map fun t => PyData.str (SX.S t))) = true
    rw [lay_tx fun u hu => h u (List.mem_cons_of_mem _ hu), Bool.and_true]
    show (SX.S t).cps.all (· < 0x110000) = true
    rw [← Array.all_toList, List.all_eq_true]
    intro c hc
    exact decide_eq_true (h t List.mem_cons_self c hc)
theorem depth_tx (l : List Tx) : PyData.depthAll (l.map fun t => PyData.str (SX.S t)) ≤ 1 := by
  have := depth_strs (l.map SX.S)
  rw [List.map_map] at this
  exact this
theorem shaped_tx {l : List Tx} (h : ∀ t ∈ l, ∀ c ∈ t, c < 1114112) : SeqAt.shaped (dTx l) = true := by
  unfold SeqAt.shaped
  rw [Bool.and_eq_true, decide_eq_true_eq]
  refine ⟨lay_tx h, ?_⟩
  have := depth_tx l
  simp only [PyData.depth]
  omega
theorem shaped_told {l : List Tx} (h : ∀ t ∈ l, ∀ c ∈ t, c < 1114112) : SeqAt.shaped (.tuple [.str "told", dTx l]) = true := by
  unfold SeqAt.shaped
  rw [Bool.and_eq_true, decide_eq_true_eq]
  constructor
  · show (PyData.canLay0 (.str "told") && (PyData.canLayAll0 (l.map fun t => PyData.str (SX.S t)) && true)) = true
    rw [lay_tx h]
    decide +kernel
  · have := depth_tx l
    simp only [PyData.depth, PyData.depthAll]
    omega
theorem dp_tx (K : PySem.W.Frag) (H : Hp) : ∀ l : List Tx, DpAll K H (l.map tx) (l.map fun t => PyData.str (SX.S t))
  | [] => .nil
  | t :: l => .cons (.str _) (dp_tx K H l)
theorem dp_lst {K : PySem.W.Frag} {H : Hp} {p : Addr} {l : List Tx} (h : H p = some (.lst (l.map tx))) : Dp K H (.ref p) (dTx l) := .lst (SqL.of h) (dp_tx K H l)
theorem dp_pair {K : PySem.W.Frag} {H : Hp} {p : Addr} {x y : V} {d e : PyData} (h : H p = some (.tup [x, y])) (hx : Dp K H x d) (hy : Dp K H y e) : Dp K H (.ref p) (.tuple [d, e]) := .tup (SqT.of h) (.cons hx (.cons hy .nil))
theorem shaped2 {s : Str} {e : PyData} (hs : PyData.canLay0 (.str s) = true) (he : PyData.canLay0 e = true) (de : PyData.depth e ≤ 10) : SeqAt.shaped (.tuple [.str s, e]) = true := by
  unfold SeqAt.shaped
  rw [Bool.and_eq_true, decide_eq_true_eq]
  constructor
  · show (PyData.canLay0 (.str s) && (PyData.canLay0 e && true)) = true
    rw [hs, he]; rfl
  · simp only [PyData.depth, PyData.depthAll]
    omega
theorem okTold : PyData.canLay0 (.str "told") = true := by decide +kernel
theorem okMany : PyData.canLay0 (.str "many") = true := by decide +kernel
theorem okEno : PyData.canLay0 (.str "enough") = true := by decide +kernel
theorem okNum : PyData.canLay0 (.str "number") = true := by decide +kernel
/-- of each own letter a power is a piece -/
theorem power_of {P : List Tx} {own : List Nat} {g : Gr} (W : FT.Whole P own g) (yE : Ends_ g) {c : Nat} (hc : c ∈ own) : ∃ p ∈ P, p = List.replicate p.length c := by
  refine Classical.byContradiction fun hn => ?_
  have hn' : ∀ p ∈ P, p ≠ List.replicate p.length c := fun p hp e => hn ⟨p, hp, e⟩
  have all : ∀ k : Nat, ∃ f, FT.Run P own (List.replicate k c) f ∧ f = List.replicate f.length c := by
    intro k
    induction k with
    | zero => exact ⟨[], .nil, rfl⟩
    | succ k ih =>
      obtain ⟨f, hr, hf⟩ := ih
      have ef : f ++ [c] = List.replicate (f.length + 1) c := by rw [List.replicate_succ', ← hf]
      have hb : FT.blk P (f ++ [c]) = false := by
        cases e : FT.blk P (f ++ [c]) with
        | false => rfl
        | true =>
          obtain ⟨p, hp, hs⟩ := (FT.blk_iff P).mp e
          rw [ef] at hs
          exact absurd (FT.suffix_replicate hs) (hn' p hp)
      refine ⟨FT.lsuf P (f ++ [c]), ?_, ?_⟩
      · rw [List.replicate_succ']
        exact .snoc hr ((FT.mem_succs P own).mpr ⟨hc, hb, rfl⟩)
      · have hs := FT.lsuf_suffix P (f ++ [c])
        rw [ef] at hs ⊢
        exact FT.suffix_replicate hs
  obtain ⟨f, hr, _⟩ := all (g.length + 1)
  have h1 := FT.run_rch W hr
  rw [List.length_replicate] at h1
  exact yE ((FT.total_pos g _).mpr ⟨f, h1⟩)
theorem rep_one (n c : Nat) : (List.replicate n [c]).flatten = List.replicate n c := by
  induction n with
  | zero => rfl
  | succ n ih => rw [List.replicate_succ, List.flatten_cons, ih, List.replicate_succ]; rfl
section
variable {P : Program} {w : World} {K : PySem.W.Frag} {mg : Str → Option Value} {base : Heap}
theorem ok_law {f C NE NN M : Addr} {fd : FuncData} (F : Fun K "law" "law" sLaw f fd) (T : Bt mg) (BM : BookMk P w K mg base C)
    (hBag : Has P w K mg base CX0 1 sLBag "_law_bag" ["_law_script"] (spLBag K)) (hPick : Has P w K mg base CX0 1 sLPick "_law_pick" ["_law_bag_here", "_law_many"] spLPick)
    (hSome : Has P w K mg base CX0 2 sLSome "_law_some" ["_law_bag_here", "_law_things"] (spLSome K)) (hFull : Has P w K mg base CX0 4 sLFull "_law_full" ["_law_bag_here"] spLPieces) (hScant : Has P w K mg base CX0 4 sLScant "_law_scant" ["_law_bag_here"] spLPieces)
    (hGraph : Has P w K mg base CX0 2 sLGraph "_law_graph" ["_law_pieces"] spLGraph) (hLong : Has P w K mg base CX0 2 sLLong "_law_longest" ["_law_graph_here"] spLLong) (hOwn : Has P w K mg base CX0 1 sLOwn "_law_own" ["_law_pieces"] (spLOwn K))
    (hFlag : Has P w K mg base CX0 1 sLFlag "_law_flag" ["_law_told_here", "_law_due"] spLFlag) (hEno : Has P w K mg base CX0 3 sEnough "is_enough" ["book"] (spEnough K C)) (hTold : Has P w K mg base CX0 6 sLTold "_law_told" ["_law_book", "_law_which", "_law_many"] (spLTold K C))
    (hCnt : Has P w K mg base CX0 1 sLCounts "_law_counts" ["_law_graph_here", "_law_many"] spLCounts) (hEnd : Has P w K mg base CX0 3 sEndless "endless" ["book"] (spEndless K C)) (hLEnd : Has P w K mg base CX0 2 sLIsEnd "_law_is_endless" ["_law_pieces", "_law_pair"] (spLIsEnd K))
    (hIsEnd : Has P w K mg base CX0 3 sIsEnd "is_endless" ["book", "thing"] (spIsEnd K C)) (hAll : Has P w K mg base CX0 1 sLAll "_law_all_free" ["_law_graph_here", "_law_most"] spLAll) (hFree : Has P w K mg base (L2.CX P w) 5 sFree "free_texts" ["book"] (spFree K C NE M))
    (hLFree : Has P w K mg base CX0 1 sLFree "_law_is_free" ["_law_pieces", "_law_text"] (spLFree K)) : FnOk P w K mg base CX0 7 f fd ["_law_script"] (spLaw K) := by
  obtain ⟨mgB, fI, fdI, MK, bI, GI⟩ := BM
  obtain ⟨f1, fd1, D1, G1⟩ := hBag
  obtain ⟨f2, fd2, D2, G2⟩ := hPick
  obtain ⟨f3, fd3, D3, G3⟩ := hSome
  obtain ⟨f4, fd4, D4, G4⟩ := hFull
  obtain ⟨f5, fd5, D5, G5⟩ := hScant
  obtain ⟨f6, fd6, D6, G6⟩ := hGraph
  obtain ⟨f7, fd7, D7, G7'⟩ := hLong
  have G7 := G7'.imp long2
  obtain ⟨f8, fd8, D8, G8⟩ := hOwn
  obtain ⟨f9, fd9, D9, G9⟩ := hFlag
  obtain ⟨g1, gd1, E1, J1⟩ := hEno
  obtain ⟨g2, gd2, E2, J2⟩ := hTold
  obtain ⟨g3, gd3, E3, J3⟩ := hCnt
  obtain ⟨g4, gd4, E4, J4⟩ := hEnd
  obtain ⟨g5, gd5, E5, J5⟩ := hLEnd
  obtain ⟨g6, gd6, E6, J6⟩ := hIsEnd
  obtain ⟨g7, gd7, E7, J7'⟩ := hAll
  have J7 := J7'.imp all2
  obtain ⟨g8, gd8, E8, J8⟩ := hFree
  obtain ⟨g9, gd9, E9, J9⟩ := hLFree
  refine F.ok scLaw (fun vs H Q E h => ?_) (fun cdv A outer s H vs Q E hr h => ?_)
  · obtain ⟨_, _, rfl, _⟩ := h
    rfl
  · obtain ⟨a, ns, rfl, hs, hl, k⟩ := h
    have nd := scLaw.nd
    have r1 : Room 1 _ := hr.mono (by decide)
    have r2 : Room 2 _ := hr.mono (by decide)
    have r3 : Room 3 _ := hr.mono (by decide)
    have r4 : Room 4 _ := hr.mono (by decide)
    have r5 : Room 5 _ := hr.mono (by decide)
    refine ⟨_, pss_cons (ps_set (i := 1) nd rfl (Or.inl rfl) (pe_call G1 r1 rfl D1.g D1.F.kp D1.b .nil pass0 (pa_cons (pv 0) pa_nil)))
      (pss_cons (ps_for PassesOwn.never rfl (pi_range1 rfl T.rng (pa_cons pe_int pa_nil)) (pg_name (i := 2) nd rfl (Or.inl rfl))
        (pss_cons (ps_set (i := 3) nd rfl (Or.inr rfl) (pe_ifExp (pt_cmpR op_eq (pe_call G2 r1 rfl D2.g D2.F.kp D2.b .nil pass0 (pa_cons (pv 1) (pa_cons pe_int pa_nil))) pe_int (nomark _)) (pe_call G4 r4 rfl D4.g D4.F.kp D4.b .nil pass0 (pa_cons (pv 1) pa_nil)) (pe_call G5 r4 rfl D5.g D5.F.kp D5.b .nil pass0 (pa_cons (pv 1) pa_nil))))
        (pss_cons (ps_asg (pe_tup (pa_cons (pe_make MK GI r4 rfl mgB bI .nil pass0 (pa_cons (pv 3) pa_nil)) (pa_cons (pe_call G6 r2 rfl D6.g D6.F.kp D6.b .nil pass0 (pa_cons (pv 3) pa_nil)) pa_nil)))
          (pg_tup rfl (pgs_cons (pg_name (i := 4) nd rfl (Or.inr rfl)) (pgs_cons (pg_name (i := 5) nd rfl (Or.inl rfl)) pgs_nil))))
        (pss_cons (ps_par (by rfl) nd rfl rfl (by decide) rfl rfl (pa_cons (pe_call G7 r2 rfl D7.g D7.F.kp D7.b .nil pass0 (pa_cons (pv 5) pa_nil)) (pa_cons (pe_call G8 r1 rfl D8.g D8.F.kp D8.b .nil pass0 (pa_cons (pv 3) pa_nil)) pa_nil)) (by rfl) (i := 6) (j := 7))
        (pss_cons (ps_if (pt_not (pt_val (pe_call G9 r1 rfl D9.g D9.F.kp D9.b .nil pass0 (pa_cons (pe_call J1 r3 rfl E1.g E1.F.kp E1.b .nil pass0 (pa_cons (pv 4) pa_nil)) (pa_cons (pe_cmpR op_notN (pv 6) pe_non (nomark _)) pa_nil))))) (pss_one (ps_ret pe_bl)) pss_nil)
        (pss_cons (ps_set (i := 8) nd rfl (Or.inl rfl) (pe_call G3 r2 rfl D3.g D3.F.kp D3.b .nil pass0 (pa_cons (pv 1) (pa_cons (pe_lst (pa_cons pe_int (pa_cons pe_int (pa_cons pe_int (pa_cons pe_int (pa_cons pe_int (pa_cons pe_int (pa_cons pe_int (pa_cons pe_int pa_nil))))))))) pa_nil))))
        (pss_cons (ps_if (pt_cmpR (op_neD hr.units) (pe_call J2 hr rfl E2.g E2.F.kp E2.b .nil pass0 (pa_cons (pv 4) (pa_cons pe_int (pa_cons (pv 8) pa_nil)))) (pe_tup (pa_cons pe_str (pa_cons (pe_ix ix_list (pe_call J3 r1 rfl E3.g E3.F.kp E3.b .nil pass0 (pa_cons (pv 5) (pa_cons (pv 8) pa_nil))) (pv 8) (fun _ _ => rfl)) pa_nil))) (nomark _)) (pss_one (ps_ret pe_bl)) pss_nil)
        (pss_cons (ps_set (i := 9) nd rfl (Or.inl rfl) (pe_call J4 r3 rfl E4.g E4.F.kp E4.b .nil pass0 (pa_cons (pv 4) pa_nil)))
        (pss_one (ps_if (pt_cmpR op_isN (pv 6) pe_non (nomark _))
          (pss_cons (ps_if (PW.pt (pw_or (pt_not (pt_val (pIsi T (pv 9) T.tup PyProof.Rows.boot_tuple))) (pw_or (pt_cmpR op_ne (pLen T (pv 9)) pe_int (nomark _)) (pw_or1 (pt_not (pt_val (pe_call J5 r2 rfl E5.g E5.F.kp E5.b .nil pass0 (pa_cons (pv 3) (pa_cons (pv 9) pa_nil))))))))) (pss_one (ps_ret pe_bl)) pss_nil)
          (pss_cons (ps_if (pt_cmpR op_notBl (pe_call J6 r3 rfl E6.g E6.F.kp E6.b .nil pass0 (pa_cons (pv 4) (pa_cons (pv 9) pa_nil))) pe_bl (nomark _)) (pss_one (ps_ret pe_bl)) pss_nil)
          (pss_one (ps_if (pt_cmpR (op_neD hr.units) (pe_lc (own := [("_law_which", 13)]) (g := gName 13) (tt := tYes) rfl nd (pi_tup (pe_tup (pa_cons pe_int (pa_cons pe_int pa_nil)))) (blkOk_by (N := nLaw) (sc := defScope sLaw) (by decide +kernel))
              (fun _ _ _ _ _ => pg_name (i := 13) nd rfl (Or.inl rfl)) (fun _ _ _ _ _ => pts_nil) (fun _ _ _ _ _ => pe_call J2 hr rfl E2.g E2.F.kp E2.b .nil pass0 (pa_cons (pv 4) (pa_cons (pv 13) (pa_cons pe_int pa_nil)))))
            (pe_op op_rep (pe_lst (pa_cons (pe_tup (pa_cons pe_str (pa_cons pe_non pa_nil))) pa_nil)) pe_int) (nomark _)) (pss_one (ps_ret pe_bl)) pss_nil))))
          (pss_cons (ps_set (i := 10) nd rfl (Or.inl rfl) (pe_call J7 r1 rfl E7.g E7.F.kp E7.b .nil pass0 (pa_cons (pv 5) (pa_cons pe_int pa_nil))))
          (pss_cons (ps_set (i := 11) nd rfl (Or.inl rfl) (pe_ifExp (pt_cmpR op_isN (pv 10) pe_non (nomark _)) (pe_tup (pa_cons pe_str (pa_cons pe_int pa_nil))) (pe_tup (pa_cons pe_str (pa_cons (pv 10) pa_nil)))))
          (pss_cons (ps_if (PW.pt (pw_or (pt_cmpR op_notN (pv 9) pe_non (nomark _)) (pw_or (pt_cmpR (op_neD hr.units) (pe_call J2 hr rfl E2.g E2.F.kp E2.b .nil pass0 (pa_cons (pv 4) (pa_cons pe_int (pa_cons pe_int pa_nil)))) (pv 11) (nomark _))
            (pw_or1 (pt_cmpR (op_neD hr.units) (pe_call J2 hr rfl E2.g E2.F.kp E2.b .nil pass0 (pa_cons (pv 4) (pa_cons pe_int (pa_cons pe_int pa_nil)))) (pe_tup (pa_cons pe_str (pa_cons (pv 6) pa_nil))) (nomark _)))))) (pss_one (ps_ret pe_bl)) pss_nil)
          (pss_cons (ps_if (pt_not (pt_val (pAll T rfl (pe_lc (own := [("_law_letter", 15)]) (g := gName 15) (tt := tYes)
              (te := tCB (rAny K) (tCons (tLc (iTup K (tVar 3)) (gName 14) tYes (tOp rEq (tVar 14) (tOp (fun x y H Q => ∃ (w : List Nat) (n : Nat), x = .str (SX.S w) ∧ y = .int (n : Int) ∧ w.length * n ≤ 1000000 ∧ n < 2 ^ 31 ∧ Q (.str (SX.S (List.replicate n w).flatten)) H) (tVar 15) (tCB (rLen K) (tCons (tVar 14) tNil)))) [14]) tNil))
              rfl nd (pi_str (pv 7)) (blkOk_by (N := nLaw) (sc := defScope sLaw) (by decide +kernel)) (fun _ _ _ _ _ => pg_name (i := 15) nd rfl (Or.inr rfl)) (fun _ _ _ _ _ => pts_nil)
              (fun _ _ _ _ _ => pAny T rfl (pe_lc (own := [("_law_piece", 14)]) (g := gName 14) (tt := tYes)
                (te := tOp rEq (tVar 14) (tOp (fun x y H Q => ∃ (w : List Nat) (n : Nat), x = .str (SX.S w) ∧ y = .int (n : Int) ∧ w.length * n ≤ 1000000 ∧ n < 2 ^ 31 ∧ Q (.str (SX.S (List.replicate n w).flatten)) H) (tVar 15) (tCB (rLen K) (tCons (tVar 14) tNil))))
                rfl nd (pi_tup (pv 3)) (blkOk_by (N := nLaw) (sc := relS { kind := .function, names := [(".0", .local), ("_law_letter", .cell), ("any", .globalImplicit), ("_law_pieces", .free)], isGenerator := false, isCoroutine := false } (defScope sLaw)) (by decide +kernel))
                (fun _ _ _ _ _ => pg_name (i := 14) nd rfl (Or.inl rfl)) (fun _ _ _ _ _ => pts_nil) (fun _ _ _ _ _ => pe_cmpR op_eq (pv 14) (pe_op op_mulTx (pv 15) (pLen T (pv 14))) (nomark _)))))))) (pss_one (ps_ret pe_bl)) pss_nil)
          (pss_one (ps_if (pt_cmpR op_notN (pv 10) pe_non (nomark _))
            (pss_cons (ps_expr (pe_bm0 PySem.F.plainAttrs_list PySem.F.slot_list_clear PySem.F.type_list_clear mt_clear (pe_call J8 r5 rfl E8.g E8.F.kp E8.b .nil passL (pa_cons (pv 4) pa_nil))))
            (pss_one (ps_if (PW.pt (pw_or (pt_cmpR (op_neD hr.units) (pe_call J8 r5 rfl E8.g E8.F.kp E8.b .nil passL (pa_cons (pv 4) pa_nil)) (pv 10) (nomark _)) (pw_or1 (pt_not (pt_val (pAll T rfl
              (pe_lc (own := [("_law_text", 16)]) (g := gName 16) (tt := tYes) rfl nd (pi_list (pv 10)) (blkOk_by (N := nLaw) (sc := defScope sLaw) (by decide +kernel)) (fun _ _ _ _ _ => pg_name (i := 16) nd rfl (Or.inl rfl)) (fun _ _ _ _ _ => pts_nil)
                (fun _ _ _ _ _ => pe_call J9 r1 rfl E9.g E9.F.kp E9.b .nil pass0 (pa_cons (pv 3) (pa_cons (pv 16) pa_nil)))))))))) (pss_one (ps_ret pe_bl)) pss_nil)))
            pss_nil))))))))))))))))
      (pss_cons (ps_set (i := 12) nd rfl (Or.inl rfl) (pe_call G3 r2 rfl D3.g D3.F.kp D3.b .nil pass0 (pa_cons (pv 1) (pa_cons (pe_lst (pa_cons (pe_un un_neg pe_int) (pa_cons pe_int (pa_cons pe_bl (pa_cons pe_non (pa_cons pe_str (pa_cons (pe_tup (pa_cons pe_int pa_nil)) (pa_cons (pe_op op_pow pe_int pe_int) pa_nil)))))))) pa_nil))))
      (pss_one (ps_ret (pe_cmpR (op_eqD hr.units) (pe_call J2 hr rfl E2.g E2.F.kp E2.b .nil pass0 (pa_cons (pv 4) (pa_cons pe_int (pa_cons (pv 12) pa_nil)))) (pe_tup (pa_cons pe_str (pa_cons pe_non pa_nil))) (nomark _)))))), ?_⟩
    have two : ∀ {a b : V}, [a, b].length ≤ sizeLine := fun {a b} => sz1 (by show 2 ≤ 100000; omega)
    have eqr : ∀ d : PyData, SeqAt.shaped d = true → PyData.eqv d d = true := fun d s => SeqAt.eqv_refl d (SeqAt.canLay_of_shaped s)
    refine ⟨_, rfl, a, ns, rfl, hs, hl, fun bg gr H1 S1 bag1 nbg ngr => ?_⟩
    refine ⟨3, rfl, by decide, by decide, for_range (lo := 0) (n := 3) (fun i σ H' => BagAt H' bg gr ∧ (∃ x2 x3 x4 x5 x6 x7 x8 x9 x10 x11 x12, σ = [some (.ref a), some (.ref bg), x2, x3, x4, x5, x6, x7, x8, x9, x10, x11, x12, none, none, none, none] ∧
        (i = 0 ∨ ∃ b P, x4 = some (.ref b) ∧ BookAt K C H' b P ∧ Pcs P))) ⟨bag1, _, _, _, _, _, _, _, _, _, _, _, rfl, .inl rfl⟩ ?_ ?_⟩
    · rintro i σ H2 hi ⟨bag2, x2, x3, x4, x5, x6, x7, x8, x9, x10, x11, x12, rfl, _⟩
      refine seq_asg ?_
      refine ⟨_, rfl, bg, gr, 2, rfl, bag2, by omega, by omega, fun r H3 _ _ bag3 X3 => ⟨rfl, _, rfl, ite_same ?_⟩⟩
      refine ⟨_, rfl, bg, gr, rfl, bag3, fun L t H4 pc ht bag4 X4 => ?_⟩
      have oo := own_ownOf pc
      have ol := oo.len pc
      -- the book and the graph
      refine ⟨_, rfl, fun b dx nb ndx ndb => ⟨H4, b, dx, t, L, rfl, pc, ht, upd_same, nb, Same.new (Same.upd ndx) nb, fun H5 S5 hb5 => ⟨rfl, ?_⟩⟩⟩
      refine ⟨_, rfl, t, L, rfl, S5 _ _ ht, pc, fun d g H6 hg S6 hGn => ⟨two, fun p0 np0 => ?_⟩⟩
      obtain ⟨as, hd6, hrow6, hnew⟩ := hGn
      have nrows : ∀ p ∈ as, p.2 ≠ bg ∧ p.2 ≠ gr := fun p hp => (bag4.same S5).ne (hnew p hp)
      have hG6 : LRows H6 g as := hrow6
      have W := hg.whole
      have gf := g_few pc hg
      have S67 : Same H6 (upd H6 p0 (.tup [.ref b, .ref d])) := Same.upd np0
      have hp0 : (upd H6 p0 (.tup [.ref b, .ref d])) p0 = some (.tup [.ref b, .ref d]) := upd_same
      refine ⟨p0, _, rfl, SqT.of hp0, rfl, _, _, rfl, _, _, rfl, rfl, ?_⟩
      have S47 := (S5.trans S6).trans S67
      have hb7 := hb5.same (S6.trans S67)
      have hd7 := S67 _ _ hd6
      have hrow7 : LRows (upd H6 p0 (.tup [.ref b, .ref d])) g as := hG6.same (fun p _ o e => S67 _ _ e) (tups_same S67)
      generalize upd H6 p0 (.tup [.ref b, .ref d]) = H7 at S47 hb7 hd7 hrow7 ⊢
      have bag7 := bag4.same S47
      have ht7 := S47 _ _ ht
      clear S67 hp0 np0 S6 hG6 hrow6 hd6 hnew S5 hb5
      have hG7 : LGraphAt H7 d g := ⟨as, hd7, hrow7⟩
      -- its longest, its own letters
      refine ⟨_, rfl, d, g, L, ownOf L, rfl, hG7, W, by omega, ol, fun lv H8 hlv S8 => ?_⟩
      refine ⟨_, rfl, t, L, rfl, S8 _ _ ht7, pc, fun own H9 ho S9 => ⟨_, _, rfl, ?_⟩⟩
      obtain rfl := own_eq pc ho
      have S79 := S8.trans S9
      -- is it enough
      refine ⟨_, rfl, b, L, rfl, hb7.same S79, pc, fun g' H10 hg' S10 => ⟨_, rfl, rfl, _, _, rfl, _, rfl, ?_⟩⟩
      obtain rfl := hg.one hg'
      have elv : decide (Ends_ g) = !decide (lv = .non) := by
        rcases hlv with ⟨c, rfl⟩ | ⟨c, h, _, rfl⟩
        · rw [decide_eq_false c]; rfl
        · rw [decide_eq_true c]; rfl
      refine iteNS elv ?_
      have S710 := S79.trans S10
      have bag10 := bag7.same S710
      -- how many letters
      refine ⟨_, rfl, by show 8 ≤ sizeLine; exact sz1 (by omega), fun ml nml => ?_⟩
      obtain ⟨nm1, nm2⟩ := bag10.ne nml
      refine ⟨bg, gr, ml, _, rfl, bag10.upd nm1 nm2, nm1, nm2, .inl upd_same, by simp, by simp, fun x H11 hx bag11 X11 => ?_⟩
      obtain ⟨n, rfl, hn⟩ : ∃ n : Nat, x = .int (n : Int) ∧ n ≤ 1000 := by
        simp only [List.mem_cons, List.not_mem_nil, or_false] at hx
        rcases hx with rfl | rfl | rfl | rfl | rfl | rfl | rfl | rfl
        · exact ⟨0, rfl, by omega⟩
        · exact ⟨1, rfl, by omega⟩
        · exact ⟨2, rfl, by omega⟩
        · exact ⟨5, rfl, by omega⟩
        · exact ⟨9, rfl, by omega⟩
        · exact ⟨40, rfl, by omega⟩
        · exact ⟨100, rfl, by omega⟩
        · exact ⟨1000, rfl, by omega⟩
      have X711 : SameX bg gr H7 H11 := (SameX.of (S710.trans (Same.upd nml))).trans X11
      clear hx X11 nml
      -- what stood then stands now: none of it is the bag
      have nbag : ∀ z o, H7 z = some o → (∀ xs, o ≠ .lst xs) → z ≠ bg ∧ z ≠ gr := fun z o e no => by
        obtain ⟨_, ⟨z1, c1, al1, h1, _⟩, gs1, h2⟩ := bag7
        exact ⟨fun q => by rw [q, h1] at e; cases e; exact no _ rfl, fun q => by rw [q, h2] at e; cases e; exact no _ rfl⟩
      have hb11 : BookAt K C H11 b L := by
        obtain ⟨dx', t', h1, h2⟩ := hb7
        exact ⟨dx', t', X711 _ _ (nbag b _ h1 (by intro xs z; cases z)).1 (nbag b _ h1 (by intro xs z; cases z)).2 h1, X711.tup bag7 h2⟩
      have ht11 := X711.tup bag7 ht7
      have hG11 : LGraphAt H11 d g := by
        have nd7 := nbag d _ hd7 (by intro xs z; cases z)
        exact ⟨as, X711 _ _ nd7.1 nd7.2 hd7, hrow7.same (fun p hp o e => X711 _ _ (nrows p hp).1 (nrows p hp).2 e) (fun z xs e => X711.tup bag7 e)⟩
      clear nbag hG7 hb7 ht7 hd7 hrow7 nrows S710 S79 S47 bag7 bag10 X711 S8 S9 S10 ho hg'
      -- the count
      refine ⟨_, rfl, _, rfl, b, L, 2, .int (n : Int), rfl, hb11, pc, .inr (.inr ⟨rfl, .inl ⟨n, rfl, hn, fun g' t1 H12 hg' tl1 => ?_⟩⟩)⟩
      obtain rfl := hg.one hg'
      obtain ⟨S12, nt1, ht1⟩ := tl1
      refine ⟨_, rfl, _, rfl, d, n, g, L, ownOf L, rfl, hn, hG11.same S12, W, by omega, ol, fun q H13 S13 nq hq => ⟨_, rfl, q, _, (n : Int), .int (FT.total (FT.cnt g n)), rfl, rfl, SqL.of hq, at_of rfl (cntV_at (by omega)), two, fun t2 nt2 => ?_⟩⟩
      have n12 : t1 ≠ t2 := ne_of_none (S13 _ _ ht1) nt2
      have sh : SeqAt.shaped (.tuple [.str "told", .int (FT.total (FT.cnt g n))]) = true := shaped2 okTold rfl (by simp [PyData.depth])
      refine ⟨_, _, dp_pair (by rw [upd_ne n12]; exact S13 _ _ ht1) (.str _) (.int _), dp_pair upd_same (.str _) (.int _), sh, sh, _, rfl, ?_⟩
      rw [eqr _ sh]
      refine iteF ?_
      have S14 : Same H11 (upd H13 t2 (.tup [.str "told", .int (FT.total (FT.cnt g n))])) := Same.new (S12.trans S13) ((S12.trans S13).free nt2)
      generalize upd H13 t2 (.tup [.str "told", .int (FT.total (FT.cnt g n))]) = H14 at S14 ⊢
      have hb14 := hb11.same S14
      have ht14 := S14 _ _ ht11
      have hG14 := hG11.same S14
      have bag14 := bag11.same S14
      clear S12 S13 ht1 nt1 hq nq nt2 n12 sh S14 hb11 ht11 hG11 bag11 hg'
      rcases hlv with ⟨nE, rfl⟩ | ⟨yE, h, hh, rfl⟩
      · -- without end
        refine ⟨_, rfl, b, L, rfl, hb14, pc, fun g' H15 hg' S15 => ?_⟩
        obtain rfl := hg.one hg'
        refine ⟨fun c => absurd c nE, fun _ u r pt ev hpt npt => ?_⟩
        have ht15 := S15 _ _ ht14
        refine ⟨_, rfl, rfl, _, rfl, ifT rfl ?_⟩
        refine ⟨_, rfl, _, "tuple", true, rfl, .base (.tup hpt), by decide +kernel, _, rfl, iteF ?_⟩
        refine ⟨_, rfl, _, 2, rfl, .inr ⟨_, SqT.of hpt, rfl⟩, rfl, _, rfl, iteF ?_⟩
        refine ⟨_, rfl, _, rfl, t, pt, L, u, r, rfl, ht15, pc, hpt, ev, fun H16 S16 => ⟨_, rfl, iteF ?_⟩⟩
        refine ⟨_, rfl, _, rfl, b, pt, L, u, r, rfl, (hb14.same S15).same S16, pc, S16 _ _ hpt, ev, fun H17 S17 => ⟨true, true, rfl, rfl, _, rfl, iteNS rfl ?_⟩⟩
        have S1417 := (S15.trans S16).trans S17
        refine ⟨two, fun wt nwt => ⟨wt, rfl, ⟨_, SqT.of upd_same⟩, fun D nD => ?_⟩⟩
        have S1418 : Same H14 (upd H17 wt (.tup [.int 0, .int 1])) := S1417.trans (Same.upd nwt)
        have hwt : (upd H17 wt (.tup [.int 0, .int 1])) wt = some (.tup [.int 0, .int 1]) := upd_same
        generalize upd H17 wt (.tup [.int 0, .int 1]) = H18 at S1418 hwt nD ⊢
        refine lc_allW 2 (fun i H' => Same H18 H' ∧ ∃ ts : List Addr, ts.length = i ∧ H' D = some (.lst (ts.map V.ref)) ∧ ∀ x ∈ ts, H' x = some (.tup [.str "enough", .non])) ⟨Same.upd nD, [], rfl, upd_same, fun x hx => (nomatch hx)⟩
          (fun i H' hi q => ⟨_, [V.int 0, .int 1][i], SqT.of (q.1 _ _ hwt), by simp [hi]⟩) (fun H' q => ⟨_, SqT.of (q.1 _ _ hwt), by simp⟩) (fun i x H19 H20 hi q y => ?_) (fun H19 q => ?_)
        · obtain ⟨rfl, y⟩ := y
          obtain ⟨S19, ts, lts, hD, hts⟩ := q
          have e := y _ (SqT.of (S19 _ _ hwt))
          have hb20 := (hb14.same S1418).same S19
          have post : ∀ t' H', Told H20 H' t' (.str "enough") .non → ∃ acc, H' D = some (.lst acc) ∧ acc.length < sizeLine ∧ Same H18 (upd H' D (.lst (acc ++ [.ref t']))) ∧ ∃ ts : List Addr, ts.length = i + 1 ∧ (upd H' D (.lst (acc ++ [.ref t']))) D = some (.lst (ts.map V.ref)) ∧
              ∀ x ∈ ts, (upd H' D (.lst (acc ++ [.ref t']))) x = some (.tup [.str "enough", .non]) := by
            rintro t' H' ⟨Sx, ntx, htx⟩
            have hDx := Sx _ _ hD
            refine ⟨_, hDx, by rw [List.length_map]; exact big_lt (by omega), Same.new (S19.trans Sx) nD, ts ++ [t'], by simp [lts], by rw [upd_same]; simp, fun x hx => ?_⟩
            rcases List.mem_append.mp hx with hx | hx
            · rw [upd_ne (ne_of (Sx _ _ (hts x hx)) hDx (by intro z; cases z))]
              exact Sx _ _ (hts x hx)
            · rw [List.mem_singleton.mp hx, upd_ne (ne_of htx hDx (by intro z; cases z))]
              exact htx
          have i01 : i = 0 ∨ i = 1 := by omega
          rcases i01 with rfl | rfl
          · cases Option.some.inj e
            exact ⟨rfl, _, rfl, _, rfl, b, L, 0, .int 0, rfl, hb20, pc, .inl ⟨rfl, fun g' t' H' hg' => ⟨fun _ tl => post t' H' tl, fun c => absurd (hg.one hg' ▸ c) nE⟩⟩⟩
          · cases Option.some.inj e
            exact ⟨rfl, _, rfl, _, rfl, b, L, 1, .int 0, rfl, hb20, pc, .inr (.inl ⟨rfl, fun g' t' H' hg' => ⟨fun _ tl => post t' H' tl, fun c => absurd (hg.one hg' ▸ c) nE⟩⟩)⟩
        · obtain ⟨S19, ts, lts, hD, hts⟩ := q
          obtain ⟨t1, t2, rfl⟩ : ∃ t1 t2, ts = [t1, t2] := by
            match ts, lts with
            | [t1, t2], _ => exact ⟨t1, t2, rfl⟩
          have h1 := hts t1 (by simp)
          have h2 := hts t2 (by simp)
          refine ⟨two, fun et net => ⟨by show 1 ≤ sizeLine; exact sz1 (by omega), fun el nel => ⟨el, 2, _, rfl, rfl, upd_same, by decide, by decide, by show 1 * 2 ≤ sizeLine; exact sz1 (by omega), fun rl nrl => ?_⟩⟩⟩
          have Se : Same H19 (upd (upd (upd H19 et (.tup [.str "enough", .non])) el (.lst [.ref et])) rl (.lst (List.replicate (2 : Int).toNat [V.ref et]).flatten)) := Same.new (Same.new (Same.upd net) ((Same.upd net).free nel)) ((Same.new (Same.upd net) ((Same.upd net).free nel)).free nrl)
          have nee : et ≠ el := ne_of_none upd_same nel
          have het : (upd (upd H19 et (.tup [.str "enough", .non])) el (.lst [.ref et])) et = some (.tup [.str "enough", .non]) := by rw [upd_ne nee]; exact upd_same
          have het2 : (upd (upd (upd H19 et (.tup [.str "enough", .non])) el (.lst [.ref et])) rl (.lst (List.replicate (2 : Int).toNat [V.ref et]).flatten)) et = some (.tup [.str "enough", .non]) := by rw [upd_ne (ne_of_none het nrl)]; exact het
          have hrl : (upd (upd (upd H19 et (.tup [.str "enough", .non])) el (.lst [.ref et])) rl (.lst (List.replicate (2 : Int).toNat [V.ref et]).flatten)) rl = some (.lst [.ref et, .ref et]) := upd_same
          have sh : SeqAt.shaped (.list [.tuple [.str "enough", .none], .tuple [.str "enough", .none]]) = true := by decide +kernel
          refine ⟨_, _, .lst (SqL.of (Se _ _ hD)) (.cons (dp_pair (Se _ _ h1) (.str _) .non) (.cons (dp_pair (Se _ _ h2) (.str _) .non) .nil)), .lst (SqL.of hrl) (.cons (dp_pair het2 (.str _) .non) (.cons (dp_pair het2 (.str _) .non) .nil)), sh, sh, _, rfl, ?_⟩
          rw [eqr _ sh]
          have Sz := (S1418.trans S19).trans Se
          exact iteF ⟨bag14.same Sz, _, _, _, _, _, _, _, _, _, _, _, rfl, .inr ⟨b, L, rfl, hb14.same Sz, pc⟩⟩
      · -- enough
        refine ⟨_, rfl, b, L, rfl, hb14, pc, fun g' H15 hg' S15 => ?_⟩
        obtain rfl := hg.one hg'
        refine ⟨fun _ => ?_, fun c => absurd yE c⟩
        refine ⟨_, rfl, rfl, _, rfl, ifF (by intro z; cases z) ?_⟩
        refine ⟨_, rfl, d, g, L, ownOf L, rfl, hG14.same S15, W, by omega, ol, fun ev H16 hev S16 => ?_⟩
        refine seq_asg (due_rd rfl hev fun du H17 S17 hdu => ?_)
        have S1417 := (S15.trans S16).trans S17
        have hev17 := hev.same S17
        have hb17 := hb14.same S1417
        have ht17 := S1417 _ _ ht14
        refine ⟨_, rfl, rfl, _, rfl, iteNS rfl ?_⟩
        refine ⟨_, rfl, b, L, 0, .int 0, rfl, hb17, pc, .inl ⟨rfl, fun g' t1 H18 hg' => ?_⟩⟩
        obtain rfl := hg.one hg'
        refine told0_split yE fun hft => ?_
        have dat : Same H17 H18 ∧ ∃ dd, SeqAt.shaped dd = true ∧ Dp K H18 (.ref t1) dd ∧ Dp K H18 (.ref du) dd := by
          rcases hft with ⟨fn, S18, _, h1⟩ | ⟨l, p, fs, hp, S18, _, h1⟩
          · rcases hev17 with ⟨fn', rfl⟩ | ⟨l', p', fs', rfl, hp'⟩
            · rcases hdu with ⟨_, h2⟩ | ⟨p2, e2, _⟩
              · exact ⟨S18, _, shaped2 okMany rfl (by simp [PyData.depth]), dp_pair h1 (.str _) (.int 3000), dp_pair (S18 _ _ h2) (.str _) (.int 3000)⟩
              · cases e2
            · cases FT.FreeRes.one fn fs'
          · rcases hev17 with ⟨fn', rfl⟩ | ⟨l', p', fs', rfl, hp'⟩
            · cases FT.FreeRes.one fs fn'
            · cases FT.FreeRes.one fs fs'
              rcases hdu with ⟨e2, _⟩ | ⟨p2, e2, h2⟩
              · cases e2
              · cases e2
                exact ⟨S18, _, shaped_told (free_low pc W fs).1, dp_pair h1 (.str _) (dp_lst hp), dp_pair (S18 _ _ h2) (.str _) (dp_lst (S18 _ _ hp'))⟩
        obtain ⟨S18, dd, sd, d1, d2⟩ := dat
        refine ⟨_, rfl, dd, dd, d1, d2, sd, sd, _, rfl, ?_⟩
        rw [eqr dd sd]
        refine iteF ?_
        refine ⟨_, rfl, b, L, 1, .int 0, rfl, hb17.same S18, pc, .inr (.inl ⟨rfl, fun g' t2 H19 hg' => ?_⟩)⟩
        obtain rfl := hg.one hg'
        refine ⟨fun c => absurd yE c, fun _ h2 hh2 tl => ?_⟩
        obtain rfl := hh.one hh2
        obtain ⟨S19, nt2, ht2⟩ := tl
        refine ⟨_, rfl, two, fun t3 nt3 => ?_⟩
        have n23 : t2 ≠ t3 := ne_of_none ht2 nt3
        have sh : SeqAt.shaped (.tuple [.str "told", .int h]) = true := shaped2 okTold rfl (by simp [PyData.depth])
        refine ⟨_, _, dp_pair (by rw [upd_ne n23]; exact ht2) (.str _) (.int _), dp_pair upd_same (.str _) (.int _), sh, sh, _, rfl, ?_⟩
        rw [eqr _ sh]
        refine iteF ?_
        have S20 : Same H17 (upd H19 t3 (.tup [.str "told", .int h])) := Same.new (S18.trans S19) ((S18.trans S19).free nt3)
        generalize upd H19 t3 (.tup [.str "told", .int h]) = H20 at S20 ⊢
        have S1420 := S1417.trans S20
        have ht20 := S20 _ _ ht17
        have hb20 := hb17.same S20
        have hev20 := hev17.same S20
        clear S18 S19 d1 d2 sd hft nt2 ht2 nt3 n23 sh hdu hev hh2 hev17
        -- the fact of free texts
        refine ⟨_, rfl, SX.S (ownOf L), rfl, fun D nD => ?_⟩
        have pf := pc.few
        refine lc_allW (ownOf L).length (fun i H' => Same H20 H' ∧ H' D = some (.lst ((List.replicate i true).map V.bl))) ⟨Same.upd nD, upd_same⟩ (fun i H' hi _ => by show i < (ownOf L).toArray.size; simpa using hi) (fun H' _ => by show (ownOf L).toArray.size ≤ _; simp) (fun i x H21 H22 hi q y => ?_) (fun H21 q => ?_)
        · obtain ⟨rfl, c, hc, rfl⟩ := y
          obtain ⟨S21, hD⟩ := q
          have hc' : (ownOf L)[i]? = some c := by simpa using hc
          obtain ⟨pw, hpw, epw⟩ := power_of W yE (List.mem_of_getElem? hc')
          have ht22 := S21 _ _ ht20
          refine ⟨rfl, _, rfl, t, rfl, ⟨_, SqT.of ht22⟩, fun D2 nD2 => lc_mapT L tx (fun p => .bl (decide (tx p = V.str (SX.S (List.replicate p.length [c]).flatten)))) (SqT.of ht22) nD2 (by omega) (fun j p e acc hz => ?_) ?_⟩
          · have hpl := pc.len p (List.mem_of_getElem? e)
            exact ⟨rfl, _, rfl, _, rfl, _, rfl, _, p.length, rfl, ⟨by rw [SX.S_len]; exact sz1 (by omega), (SX.S_len p).symm⟩, [c], p.length, rfl, rfl, by simp; omega, by omega, rfl, lc_end hz rfl⟩
          · have nDD : D ≠ D2 := ne_of_none hD nD2
            refine ⟨D2, L.map fun p => decide (tx p = V.str (SX.S (List.replicate p.length [c]).flatten)), rfl, SqL.of (by rw [upd_same, List.map_map]; rfl), ?_⟩
            have ea : ((L.map fun p => decide (tx p = V.str (SX.S (List.replicate p.length [c]).flatten))).any id) = true := by
              rw [any_map, List.any_eq_true]
              refine ⟨pw, hpw, decide_eq_true ?_⟩
              rw [rep_one, ← epw]
            rw [ea]
            exact ⟨_, by rw [upd_ne nDD]; exact hD, by rw [List.length_map, List.length_replicate]; exact big_lt (by omega), Same.new (S21.trans (Same.upd nD2)) nD, by rw [upd_same, List.replicate_succ', List.map_append]; rfl⟩
        obtain ⟨S21, hD⟩ := q
        refine ⟨D, List.replicate (ownOf L).length true, rfl, SqL.of hD, _, rfl, ?_⟩
        rw [all_true]
        refine iteF ?_
        have S1421 := S1420.trans S21
        have hev21 := hev20.same S21
        have hb21 := hb20.same S21
        have ht21 := S21 _ _ ht20
        clear hev20 hb20 ht20 nD hD S1420
        refine ⟨_, rfl, rfl, _, rfl, ?_⟩
        rcases hev21 with ⟨fn, rfl⟩ | ⟨l, p, fs, rfl, hp⟩
        · exact iteNS rfl ⟨bag14.same S1421, _, _, _, _, _, _, _, _, _, _, _, rfl, .inr ⟨b, L, rfl, hb21, pc⟩⟩
        refine ifE (b := true) (by rw [decide_eq_false (by intro z; cases z)]; rfl) (iteT ?_)
        obtain ⟨low, noP, l3⟩ := free_low pc W fs
        refine ⟨_, rfl, b, L, rfl, hb21, pc, fun g' H22 hg' S22 => ?_⟩
        obtain rfl := hg.one hg'
        refine ⟨fun c => absurd yE c, fun _ => ⟨fun l2 q _ hq nq => ⟨.inl ⟨rfl, _, SqL.of hq⟩, q, _, rfl, rfl, hq, ?_⟩, fun fn d _ => (by cases FT.FreeRes.one fn fs)⟩⟩
        have S23 : Same H21 (upd H22 q (.lst [])) := Same.new S22 nq
        generalize upd H22 q (.lst []) = H23 at S23 ⊢
        refine ⟨_, rfl, b, L, rfl, hb21.same S23, pc, fun g' H24 hg' S24 => ?_⟩
        obtain rfl := hg.one hg'
        refine ⟨fun c => absurd yE c, fun _ => ⟨fun l4 q4 fs4 hq4 nq4 => ?_, fun fn d _ => (by cases FT.FreeRes.one fn fs)⟩⟩
        cases FT.FreeRes.one fs4 fs
        have S2124 := S23.trans S24
        have hp24 := S2124 _ _ hp
        refine ⟨_, rfl, _, _, dp_lst hq4, dp_lst hp24, shaped_tx low, shaped_tx low, _, rfl, ?_⟩
        rw [eqr _ (shaped_tx low)]
        refine iteF ?_
        have ht24 := S2124 _ _ ht21
        refine ⟨_, rfl, p, rfl, ⟨_, SqL.of hp24⟩, fun D2 nD2 => ?_⟩
        refine lc_allW l.length (fun i H' => Same H24 H' ∧ H' D2 = some (.lst ((List.replicate i true).map V.bl))) ⟨Same.upd nD2, upd_same⟩ (fun i H' hi q => ⟨_, tx l[i], SqL.of (q.1 _ _ hp24), by rw [List.getElem?_map, List.getElem?_eq_getElem hi]; rfl⟩) (fun H' q => ⟨_, SqL.of (q.1 _ _ hp24), by simp⟩) (fun i x H25 H26 hi q y => ?_) (fun H25 q => ?_)
        · obtain ⟨rfl, y⟩ := y
          obtain ⟨S25, hD⟩ := q
          have ex := y _ (SqL.of (S25 _ _ hp24))
          rw [List.getElem?_map, List.getElem?_eq_getElem hi] at ex
          cases Option.some.inj ex
          refine ⟨rfl, _, rfl, _, rfl, t, L, l[i], rfl, S25 _ _ ht24, pc, fun H27 S27 => ?_⟩
          rw [any_false (noP _ (List.getElem_mem hi))]
          exact ⟨_, S27 _ _ hD, by rw [List.length_map, List.length_replicate]; exact big_lt (by omega), Same.new (S25.trans S27) nD2, by rw [upd_same, List.replicate_succ', List.map_append]; rfl⟩
        · obtain ⟨S25, hD⟩ := q
          refine ⟨D2, List.replicate l.length true, rfl, SqL.of hD, _, rfl, ?_⟩
          rw [all_true]
          have Sz := (S1421.trans S2124).trans S25
          exact iteF ⟨bag14.same Sz, _, _, _, _, _, _, _, _, _, _, _, rfl, .inr ⟨b, L, rfl, hb14.same Sz, pc⟩⟩
    · rintro σ H2 ⟨bag2, x2, x3, x4, x5, x6, x7, x8, x9, x10, x11, x12, rfl, h4⟩
      rcases h4 with h4 | ⟨b, L, rfl, hb, pc⟩
      · cases h4
      refine ⟨_, rfl, _, rfl, by show 1 ≤ sizeLine; exact sz1 (by omega), fun tt ntt => ?_⟩
      obtain ⟨t1, t2⟩ := bag2.ne ntt
      refine ⟨_, _, rfl, rfl, ⟨by decide, by decide, by decide⟩, by show 7 ≤ sizeLine; exact sz1 (by omega), fun ml nml => ?_⟩
      obtain ⟨m1, m2⟩ := (bag2.upd t1 t2).ne nml
      have ntm : tt ≠ ml := ne_of_none upd_same nml
      refine ⟨bg, gr, ml, _, rfl, (bag2.upd t1 t2).upd m1 m2, m1, m2, .inl upd_same, by simp, by simp, fun x H3 hx bag3 X3 => ?_⟩
      have X23 : SameX bg gr H2 H3 := (SameX.of (Same.new (Same.upd ntt) ((Same.upd ntt).free nml))).trans X3
      have htt3 : H3 tt = some (.tup [.int 3]) := X3 _ _ t1 t2 (by rw [upd_ne ntm]; exact upd_same)
      have hb3 : BookAt K C H3 b L := by
        obtain ⟨dx', t', h1, h2⟩ := hb
        obtain ⟨_, ⟨z1, c1, al1, e1, _⟩, gs1, e2⟩ := bag2
        exact ⟨dx', t', X23 _ _ (ne_of h1 e1 (by intro z; cases z)) (ne_of h1 e2 (by intro z; cases z)) h1, X23 _ _ (ne_of h2 e1 (by intro z; cases z)) (ne_of h2 e2 (by intro z; cases z)) h2⟩
      have bad : NotInt K H3 x ∨ ∃ n, x = .int n ∧ ¬ (0 ≤ n ∧ n ≤ 1000) := by
        simp only [List.mem_cons, List.not_mem_nil, or_false] at hx
        rcases hx with rfl | rfl | rfl | rfl | rfl | rfl | rfl
        · exact .inr ⟨_, rfl, by decide⟩
        · exact .inr ⟨_, rfl, by decide⟩
        · exact .inl ⟨_, .base (.bl true), .inl rfl⟩
        · exact .inl ⟨_, .base .non, .inr (.inl rfl)⟩
        · exact .inl ⟨_, .base (.str _), .inr (.inr (.inl rfl))⟩
        · exact .inl ⟨_, .base (.tup htt3), .inr (.inr (.inr rfl))⟩
        · exact .inr ⟨_, rfl, by decide⟩
      refine ⟨_, rfl, _, rfl, b, L, 2, x, rfl, hb3, pc, .inr (.inr ⟨rfl, .inr ⟨bad, fun t5 H5 tl => ⟨two, fun t6 nt6 => ?_⟩⟩⟩)⟩
      obtain ⟨S5, nt5, ht5⟩ := tl
      have n56 : t5 ≠ t6 := ne_of_none ht5 nt6
      have sh : SeqAt.shaped (.tuple [.str "number", .none]) = true := by decide +kernel
      refine ⟨_, _, dp_pair (by rw [upd_ne n56]; exact ht5) (.str _) .non, dp_pair upd_same (.str _) .non, sh, sh, ?_⟩
      exact blE (Q := Q) (eqr _ sh) (k _)
end
end FTW
end
section
set_option Elab.async false
set_option linter.all false
set_option maxRecDepth 100000
set_option maxHeartbeats 4000000
/-! what the top has left, and the chain of all defs -/
namespace FTW
open PySem PySem.Spec PyProof.Rows L2 FTR
theorem all_mk {l : PySem.W.OpenLaw} {w : World} {K : PySem.W.Frag} {h : Heap} {mg : Str → Option Value} {fa C fI LE NE NN M fM fL f0 f1 f2 f3 f4 f5 f6 f7 f8 f9 f10 f11 f12 f13 f14 f15 f16 f17 f18 f19 f20 f21 f22 f23 f24 f25 f26 f27 f28 f29 f30 f31 f32 f33 f34 f35 : Addr} (X : K.In h) (G : h.Ns mainGlobals mg) (hfa : mg "law" = some (.ref fa))
    {od0 an0 : Option Addr} {sl0 : Array (Option Value)} {oc0 kV0 dc0 pm0 cd0 ct0 : Value}
    {od1 an1 : Option Addr} {sl1 : Array (Option Value)} {oc1 kV1 dc1 pm1 cd1 ct1 : Value}
    {od2 an2 : Option Addr} {sl2 : Array (Option Value)} {oc2 kV2 dc2 pm2 cd2 ct2 : Value}
    {od3 an3 : Option Addr} {sl3 : Array (Option Value)} {oc3 kV3 dc3 pm3 cd3 ct3 : Value}
    {od4 an4 : Option Addr} {sl4 : Array (Option Value)} {oc4 kV4 dc4 pm4 cd4 ct4 : Value}
    {od5 an5 : Option Addr} {sl5 : Array (Option Value)} {oc5 kV5 dc5 pm5 cd5 ct5 : Value}
    {od6 an6 : Option Addr} {sl6 : Array (Option Value)} {oc6 kV6 dc6 pm6 cd6 ct6 : Value}
    {od7 an7 : Option Addr} {sl7 : Array (Option Value)} {oc7 kV7 dc7 pm7 cd7 ct7 : Value}
    {od8 an8 : Option Addr} {sl8 : Array (Option Value)} {oc8 kV8 dc8 pm8 cd8 ct8 : Value}
    {od9 an9 : Option Addr} {sl9 : Array (Option Value)} {oc9 kV9 dc9 pm9 cd9 ct9 : Value}
    {od10 an10 : Option Addr} {sl10 : Array (Option Value)} {oc10 kV10 dc10 pm10 cd10 ct10 : Value}
    {od11 an11 : Option Addr} {sl11 : Array (Option Value)} {oc11 kV11 dc11 pm11 cd11 ct11 : Value}
    {od12 an12 : Option Addr} {sl12 : Array (Option Value)} {oc12 kV12 dc12 pm12 cd12 ct12 : Value}
    {od13 an13 : Option Addr} {sl13 : Array (Option Value)} {oc13 kV13 dc13 pm13 cd13 ct13 : Value}
    {od14 an14 : Option Addr} {sl14 : Array (Option Value)} {oc14 kV14 dc14 pm14 cd14 ct14 : Value}
    {od15 an15 : Option Addr} {sl15 : Array (Option Value)} {oc15 kV15 dc15 pm15 cd15 ct15 : Value}
    {od16 an16 : Option Addr} {sl16 : Array (Option Value)} {oc16 kV16 dc16 pm16 cd16 ct16 : Value}
    {od17 an17 : Option Addr} {sl17 : Array (Option Value)} {oc17 kV17 dc17 pm17 cd17 ct17 : Value}
    {od18 an18 : Option Addr} {sl18 : Array (Option Value)} {oc18 kV18 dc18 pm18 cd18 ct18 : Value}
    {od19 an19 : Option Addr} {sl19 : Array (Option Value)} {oc19 kV19 dc19 pm19 cd19 ct19 : Value}
    {od20 an20 : Option Addr} {sl20 : Array (Option Value)} {oc20 kV20 dc20 pm20 cd20 ct20 : Value}
    {od21 an21 : Option Addr} {sl21 : Array (Option Value)} {oc21 kV21 dc21 pm21 cd21 ct21 : Value}
    {od22 an22 : Option Addr} {sl22 : Array (Option Value)} {oc22 kV22 dc22 pm22 cd22 ct22 : Value}
    {od23 an23 : Option Addr} {sl23 : Array (Option Value)} {oc23 kV23 dc23 pm23 cd23 ct23 : Value}
    {od24 an24 : Option Addr} {sl24 : Array (Option Value)} {oc24 kV24 dc24 pm24 cd24 ct24 : Value}
    {od25 an25 : Option Addr} {sl25 : Array (Option Value)} {oc25 kV25 dc25 pm25 cd25 ct25 : Value}
    {od26 an26 : Option Addr} {sl26 : Array (Option Value)} {oc26 kV26 dc26 pm26 cd26 ct26 : Value}
    {od27 an27 : Option Addr} {sl27 : Array (Option Value)} {oc27 kV27 dc27 pm27 cd27 ct27 : Value}
    {od28 an28 : Option Addr} {sl28 : Array (Option Value)} {oc28 kV28 dc28 pm28 cd28 ct28 : Value}
    {od29 an29 : Option Addr} {sl29 : Array (Option Value)} {oc29 kV29 dc29 pm29 cd29 ct29 : Value}
    {od30 an30 : Option Addr} {sl30 : Array (Option Value)} {oc30 kV30 dc30 pm30 cd30 ct30 : Value}
    {od31 an31 : Option Addr} {sl31 : Array (Option Value)} {oc31 kV31 dc31 pm31 cd31 ct31 : Value}
    {od32 an32 : Option Addr} {sl32 : Array (Option Value)} {oc32 kV32 dc32 pm32 cd32 ct32 : Value}
    {od33 an33 : Option Addr} {sl33 : Array (Option Value)} {oc33 kV33 dc33 pm33 cd33 ct33 : Value}
    {od34 an34 : Option Addr} {sl34 : Array (Option Value)} {oc34 kV34 dc34 pm34 cd34 ct34 : Value}
    {od35 an35 : Option Addr} {sl35 : Array (Option Value)} {oc35 kV35 dc35 pm35 cd35 ct35 : Value}
    {odL anL : Option Addr} {slL : Array (Option Value)} {ocL kVL dcL pmL cdL ctL : Value}
    {odI anI : Option Addr} {slI : Array (Option Value)} {ocI kVI dcI pmI cdI ctI : Value}
    {tk1 tk2 tk3 tk4 tk5 : Tok}
    {nmM qM : Str} {NM : Addr} {bsM : List Value} {snM : List Str} {subM : List Value} {abM : Bool} {colM : Option Bool} {ddM : Option Addr} {y0 y1 y2 y3 y5 : Option Value}
    {ocM dcM pmM ctM clM ccM2 : Value} {odM anM cddM cldM : Option Addr} {slM ccsM cslM : Array (Option Value)} {cdM ccM : Addr} {vsM : Array Value} {fileM : Str} {tfl : Tok}
    (aC : PySem.W.nsIn K mainGlobals "Book" = some (some (.ref C)))
    (aLE : PySem.W.nsIn K mainGlobals "LogError" = some (some (.ref LE)))
    (aNE : PySem.W.nsIn K mainGlobals "NotEnough" = some (some (.ref NE)))
    (aNN : PySem.W.nsIn K mainGlobals "NoNumber" = some (some (.ref NN)))
    (aM : PySem.W.nsIn K mainGlobals "TooMany" = some (some (.ref M)))
    (a0 : PySem.W.nsIn K mainGlobals "is_log" = some (some (.ref f0)))
    (l0 : K.lookup f0 = some ⟨oc0, od0, .func (PySem.W.fnOf "is_log" "is_log" (defArgs sIsLog) (defBody sIsLog) (defScope sIsLog) .none kV0 dc0 pm0 an0 cd0 ct0), sl0⟩)
    (c0 : PySem.W.codeIn K cd0 "is_log" = true)
    (k0 : PySem.W.keepIn K (.ref f0) = true)
    (a1 : PySem.W.nsIn K mainGlobals "is_piece" = some (some (.ref f1)))
    (l1 : K.lookup f1 = some ⟨oc1, od1, .func (PySem.W.fnOf "is_piece" "is_piece" (defArgs sIsPiece) (defBody sIsPiece) (defScope sIsPiece) .none kV1 dc1 pm1 an1 cd1 ct1), sl1⟩)
    (c1 : PySem.W.codeIn K cd1 "is_piece" = true)
    (k1 : PySem.W.keepIn K (.ref f1) = true)
    (a2 : PySem.W.nsIn K mainGlobals "letters" = some (some (.ref f2)))
    (l2 : K.lookup f2 = some ⟨oc2, od2, .func (PySem.W.fnOf "letters" "letters" (defArgs sLetters) (defBody sLetters) (defScope sLetters) .none kV2 dc2 pm2 an2 cd2 ct2), sl2⟩)
    (c2 : PySem.W.codeIn K cd2 "letters" = true)
    (k2 : PySem.W.keepIn K (.ref f2) = true)
    (a3 : PySem.W.nsIn K mainGlobals "is_own" = some (some (.ref f3)))
    (l3 : K.lookup f3 = some ⟨oc3, od3, .func (PySem.W.fnOf "is_own" "is_own" (defArgs sIsOwn) (defBody sIsOwn) (defScope sIsOwn) .none kV3 dc3 pm3 an3 cd3 ct3), sl3⟩)
    (c3 : PySem.W.codeIn K cd3 "is_own" = true)
    (k3 : PySem.W.keepIn K (.ref f3) = true)
    (a4 : PySem.W.nsIn K mainGlobals "is_integer" = some (some (.ref f4)))
    (l4 : K.lookup f4 = some ⟨oc4, od4, .func (PySem.W.fnOf "is_integer" "is_integer" (defArgs sIsInt) (defBody sIsInt) (defScope sIsInt) .none kV4 dc4 pm4 an4 cd4 ct4), sl4⟩)
    (c4 : PySem.W.codeIn K cd4 "is_integer" = true)
    (k4 : PySem.W.keepIn K (.ref f4) = true)
    (a5 : PySem.W.nsIn K mainGlobals "is_within" = some (some (.ref f5)))
    (l5 : K.lookup f5 = some ⟨oc5, od5, .func (PySem.W.fnOf "is_within" "is_within" (defArgs sWithin) (defBody sWithin) (defScope sWithin) .none kV5 dc5 pm5 an5 cd5 ct5), sl5⟩)
    (c5 : PySem.W.codeIn K cd5 "is_within" = true)
    (k5 : PySem.W.keepIn K (.ref f5) = true)
    (a6 : PySem.W.nsIn K mainGlobals "check_number" = some (some (.ref f6)))
    (l6 : K.lookup f6 = some ⟨oc6, od6, .func (PySem.W.fnOf "check_number" "check_number" (defArgs sCheckN) (defBody sCheckN) (defScope sCheckN) .none kV6 dc6 pm6 an6 cd6 ct6), sl6⟩)
    (c6 : PySem.W.codeIn K cd6 "check_number" = true)
    (k6 : PySem.W.keepIn K (.ref f6) = true)
    (a7 : PySem.W.nsIn K mainGlobals "fronts_of" = some (some (.ref f7)))
    (l7 : K.lookup f7 = some ⟨oc7, od7, .func (PySem.W.fnOf "fronts_of" "fronts_of" (defArgs sFronts) (defBody sFronts) (defScope sFronts) .none kV7 dc7 pm7 an7 cd7 ct7), sl7⟩)
    (c7 : PySem.W.codeIn K cd7 "fronts_of" = true)
    (k7 : PySem.W.keepIn K (.ref f7) = true)
    (a8 : PySem.W.nsIn K mainGlobals "holds_piece" = some (some (.ref f8)))
    (l8 : K.lookup f8 = some ⟨oc8, od8, .func (PySem.W.fnOf "holds_piece" "holds_piece" (defArgs sHolds) (defBody sHolds) (defScope sHolds) .none kV8 dc8 pm8 an8 cd8 ct8), sl8⟩)
    (c8 : PySem.W.codeIn K cd8 "holds_piece" = true)
    (k8 : PySem.W.keepIn K (.ref f8) = true)
    (a9 : PySem.W.nsIn K mainGlobals "next_fronts" = some (some (.ref f9)))
    (l9 : K.lookup f9 = some ⟨oc9, od9, .func (PySem.W.fnOf "next_fronts" "next_fronts" (defArgs sNext) (defBody sNext) (defScope sNext) .none kV9 dc9 pm9 an9 cd9 ct9), sl9⟩)
    (c9 : PySem.W.codeIn K cd9 "next_fronts" = true)
    (k9 : PySem.W.keepIn K (.ref f9) = true)
    (a10 : PySem.W.nsIn K mainGlobals "longest_front" = some (some (.ref f10)))
    (l10 : K.lookup f10 = some ⟨oc10, od10, .func (PySem.W.fnOf "longest_front" "longest_front" (defArgs sLongF) (defBody sLongF) (defScope sLongF) .none kV10 dc10 pm10 an10 cd10 ct10), sl10⟩)
    (c10 : PySem.W.codeIn K cd10 "longest_front" = true)
    (k10 : PySem.W.keepIn K (.ref f10) = true)
    (a11 : PySem.W.nsIn K mainGlobals "heights" = some (some (.ref f11)))
    (l11 : K.lookup f11 = some ⟨oc11, od11, .func (PySem.W.fnOf "heights" "heights" (defArgs sHts) (defBody sHts) (defScope sHts) .none kV11 dc11 pm11 an11 cd11 ct11), sl11⟩)
    (c11 : PySem.W.codeIn K cd11 "heights" = true)
    (k11 : PySem.W.keepIn K (.ref f11) = true)
    (a12 : PySem.W.nsIn K mainGlobals "is_enough" = some (some (.ref f12)))
    (l12 : K.lookup f12 = some ⟨oc12, od12, .func (PySem.W.fnOf "is_enough" "is_enough" (defArgs sEnough) (defBody sEnough) (defScope sEnough) .none kV12 dc12 pm12 an12 cd12 ct12), sl12⟩)
    (c12 : PySem.W.codeIn K cd12 "is_enough" = true)
    (k12 : PySem.W.keepIn K (.ref f12) = true)
    (a13 : PySem.W.nsIn K mainGlobals "check_enough" = some (some (.ref f13)))
    (l13 : K.lookup f13 = some ⟨oc13, od13, .func (PySem.W.fnOf "check_enough" "check_enough" (defArgs sCheckE) (defBody sCheckE) (defScope sCheckE) .none kV13 dc13 pm13 an13 cd13 ct13), sl13⟩)
    (c13 : PySem.W.codeIn K cd13 "check_enough" = true)
    (k13 : PySem.W.keepIn K (.ref f13) = true)
    (a14 : PySem.W.nsIn K mainGlobals "free_texts" = some (some (.ref f14)))
    (l14 : K.lookup f14 = some ⟨oc14, od14, .func (PySem.W.fnOf "free_texts" "free_texts" (defArgs sFree) (defBody sFree) (defScope sFree) .none kV14 dc14 pm14 an14 cd14 ct14), sl14⟩)
    (c14 : PySem.W.codeIn K cd14 "free_texts" = true)
    (k14 : PySem.W.keepIn K (.ref f14) = true)
    (a15 : PySem.W.nsIn K mainGlobals "longest_free" = some (some (.ref f15)))
    (l15 : K.lookup f15 = some ⟨oc15, od15, .func (PySem.W.fnOf "longest_free" "longest_free" (defArgs sLongest) (defBody sLongest) (defScope sLongest) .none kV15 dc15 pm15 an15 cd15 ct15), sl15⟩)
    (c15 : PySem.W.codeIn K cd15 "longest_free" = true)
    (k15 : PySem.W.keepIn K (.ref f15) = true)
    (a16 : PySem.W.nsIn K mainGlobals "free_count" = some (some (.ref f16)))
    (l16 : K.lookup f16 = some ⟨oc16, od16, .func (PySem.W.fnOf "free_count" "free_count" (defArgs sCount) (defBody sCount) (defScope sCount) .none kV16 dc16 pm16 an16 cd16 ct16), sl16⟩)
    (c16 : PySem.W.codeIn K cd16 "free_count" = true)
    (k16 : PySem.W.keepIn K (.ref f16) = true)
    (a17 : PySem.W.nsIn K mainGlobals "endless" = some (some (.ref f17)))
    (l17 : K.lookup f17 = some ⟨oc17, od17, .func (PySem.W.fnOf "endless" "endless" (defArgs sEndless) (defBody sEndless) (defScope sEndless) .none kV17 dc17 pm17 an17 cd17 ct17), sl17⟩)
    (c17 : PySem.W.codeIn K cd17 "endless" = true)
    (k17 : PySem.W.keepIn K (.ref f17) = true)
    (a18 : PySem.W.nsIn K mainGlobals "stays_free" = some (some (.ref f18)))
    (l18 : K.lookup f18 = some ⟨oc18, od18, .func (PySem.W.fnOf "stays_free" "stays_free" (defArgs sStays) (defBody sStays) (defScope sStays) .none kV18 dc18 pm18 an18 cd18 ct18), sl18⟩)
    (c18 : PySem.W.codeIn K cd18 "stays_free" = true)
    (k18 : PySem.W.keepIn K (.ref f18) = true)
    (a19 : PySem.W.nsIn K mainGlobals "is_endless" = some (some (.ref f19)))
    (l19 : K.lookup f19 = some ⟨oc19, od19, .func (PySem.W.fnOf "is_endless" "is_endless" (defArgs sIsEnd) (defBody sIsEnd) (defScope sIsEnd) .none kV19 dc19 pm19 an19 cd19 ct19), sl19⟩)
    (c19 : PySem.W.codeIn K cd19 "is_endless" = true)
    (k19 : PySem.W.keepIn K (.ref f19) = true)
    (a20 : PySem.W.nsIn K mainGlobals "_law_bag" = some (some (.ref f20)))
    (l20 : K.lookup f20 = some ⟨oc20, od20, .func (PySem.W.fnOf "_law_bag" "_law_bag" (defArgs sLBag) (defBody sLBag) (defScope sLBag) .none kV20 dc20 pm20 an20 cd20 ct20), sl20⟩)
    (c20 : PySem.W.codeIn K cd20 "_law_bag" = true)
    (k20 : PySem.W.keepIn K (.ref f20) = true)
    (a21 : PySem.W.nsIn K mainGlobals "_law_pick" = some (some (.ref f21)))
    (l21 : K.lookup f21 = some ⟨oc21, od21, .func (PySem.W.fnOf "_law_pick" "_law_pick" (defArgs sLPick) (defBody sLPick) (defScope sLPick) .none kV21 dc21 pm21 an21 cd21 ct21), sl21⟩)
    (c21 : PySem.W.codeIn K cd21 "_law_pick" = true)
    (k21 : PySem.W.keepIn K (.ref f21) = true)
    (a22 : PySem.W.nsIn K mainGlobals "_law_some" = some (some (.ref f22)))
    (l22 : K.lookup f22 = some ⟨oc22, od22, .func (PySem.W.fnOf "_law_some" "_law_some" (defArgs sLSome) (defBody sLSome) (defScope sLSome) .none kV22 dc22 pm22 an22 cd22 ct22), sl22⟩)
    (c22 : PySem.W.codeIn K cd22 "_law_some" = true)
    (k22 : PySem.W.keepIn K (.ref f22) = true)
    (a23 : PySem.W.nsIn K mainGlobals "_law_own" = some (some (.ref f23)))
    (l23 : K.lookup f23 = some ⟨oc23, od23, .func (PySem.W.fnOf "_law_own" "_law_own" (defArgs sLOwn) (defBody sLOwn) (defScope sLOwn) .none kV23 dc23 pm23 an23 cd23 ct23), sl23⟩)
    (c23 : PySem.W.codeIn K cd23 "_law_own" = true)
    (k23 : PySem.W.keepIn K (.ref f23) = true)
    (a24 : PySem.W.nsIn K mainGlobals "_law_named" = some (some (.ref f24)))
    (l24 : K.lookup f24 = some ⟨oc24, od24, .func (PySem.W.fnOf "_law_named" "_law_named" (defArgs sLNamed) (defBody sLNamed) (defScope sLNamed) .none kV24 dc24 pm24 an24 cd24 ct24), sl24⟩)
    (c24 : PySem.W.codeIn K cd24 "_law_named" = true)
    (k24 : PySem.W.keepIn K (.ref f24) = true)
    (a25 : PySem.W.nsIn K mainGlobals "_law_more" = some (some (.ref f25)))
    (l25 : K.lookup f25 = some ⟨oc25, od25, .func (PySem.W.fnOf "_law_more" "_law_more" (defArgs sLMore) (defBody sLMore) (defScope sLMore) .none kV25 dc25 pm25 an25 cd25 ct25), sl25⟩)
    (c25 : PySem.W.codeIn K cd25 "_law_more" = true)
    (k25 : PySem.W.keepIn K (.ref f25) = true)
    (a26 : PySem.W.nsIn K mainGlobals "_law_full" = some (some (.ref f26)))
    (l26 : K.lookup f26 = some ⟨oc26, od26, .func (PySem.W.fnOf "_law_full" "_law_full" (defArgs sLFull) (defBody sLFull) (defScope sLFull) .none kV26 dc26 pm26 an26 cd26 ct26), sl26⟩)
    (c26 : PySem.W.codeIn K cd26 "_law_full" = true)
    (k26 : PySem.W.keepIn K (.ref f26) = true)
    (a27 : PySem.W.nsIn K mainGlobals "_law_scant" = some (some (.ref f27)))
    (l27 : K.lookup f27 = some ⟨oc27, od27, .func (PySem.W.fnOf "_law_scant" "_law_scant" (defArgs sLScant) (defBody sLScant) (defScope sLScant) .none kV27 dc27 pm27 an27 cd27 ct27), sl27⟩)
    (c27 : PySem.W.codeIn K cd27 "_law_scant" = true)
    (k27 : PySem.W.keepIn K (.ref f27) = true)
    (a28 : PySem.W.nsIn K mainGlobals "_law_graph" = some (some (.ref f28)))
    (l28 : K.lookup f28 = some ⟨oc28, od28, .func (PySem.W.fnOf "_law_graph" "_law_graph" (defArgs sLGraph) (defBody sLGraph) (defScope sLGraph) .none kV28 dc28 pm28 an28 cd28 ct28), sl28⟩)
    (c28 : PySem.W.codeIn K cd28 "_law_graph" = true)
    (k28 : PySem.W.keepIn K (.ref f28) = true)
    (a29 : PySem.W.nsIn K mainGlobals "_law_counts" = some (some (.ref f29)))
    (l29 : K.lookup f29 = some ⟨oc29, od29, .func (PySem.W.fnOf "_law_counts" "_law_counts" (defArgs sLCounts) (defBody sLCounts) (defScope sLCounts) .none kV29 dc29 pm29 an29 cd29 ct29), sl29⟩)
    (c29 : PySem.W.codeIn K cd29 "_law_counts" = true)
    (k29 : PySem.W.keepIn K (.ref f29) = true)
    (a30 : PySem.W.nsIn K mainGlobals "_law_longest" = some (some (.ref f30)))
    (l30 : K.lookup f30 = some ⟨oc30, od30, .func (PySem.W.fnOf "_law_longest" "_law_longest" (defArgs sLLong) (defBody sLLong) (defScope sLLong) .none kV30 dc30 pm30 an30 cd30 ct30), sl30⟩)
    (c30 : PySem.W.codeIn K cd30 "_law_longest" = true)
    (k30 : PySem.W.keepIn K (.ref f30) = true)
    (a31 : PySem.W.nsIn K mainGlobals "_law_is_free" = some (some (.ref f31)))
    (l31 : K.lookup f31 = some ⟨oc31, od31, .func (PySem.W.fnOf "_law_is_free" "_law_is_free" (defArgs sLFree) (defBody sLFree) (defScope sLFree) .none kV31 dc31 pm31 an31 cd31 ct31), sl31⟩)
    (c31 : PySem.W.codeIn K cd31 "_law_is_free" = true)
    (k31 : PySem.W.keepIn K (.ref f31) = true)
    (a32 : PySem.W.nsIn K mainGlobals "_law_all_free" = some (some (.ref f32)))
    (l32 : K.lookup f32 = some ⟨oc32, od32, .func (PySem.W.fnOf "_law_all_free" "_law_all_free" (defArgs sLAll) (defBody sLAll) (defScope sLAll) .none kV32 dc32 pm32 an32 cd32 ct32), sl32⟩)
    (c32 : PySem.W.codeIn K cd32 "_law_all_free" = true)
    (k32 : PySem.W.keepIn K (.ref f32) = true)
    (a33 : PySem.W.nsIn K mainGlobals "_law_told" = some (some (.ref f33)))
    (l33 : K.lookup f33 = some ⟨oc33, od33, .func (PySem.W.fnOf "_law_told" "_law_told" (defArgs sLTold) (defBody sLTold) (defScope sLTold) .none kV33 dc33 pm33 an33 cd33 ct33), sl33⟩)
    (c33 : PySem.W.codeIn K cd33 "_law_told" = true)
    (k33 : PySem.W.keepIn K (.ref f33) = true)
    (a34 : PySem.W.nsIn K mainGlobals "_law_is_endless" = some (some (.ref f34)))
    (l34 : K.lookup f34 = some ⟨oc34, od34, .func (PySem.W.fnOf "_law_is_endless" "_law_is_endless" (defArgs sLIsEnd) (defBody sLIsEnd) (defScope sLIsEnd) .none kV34 dc34 pm34 an34 cd34 ct34), sl34⟩)
    (c34 : PySem.W.codeIn K cd34 "_law_is_endless" = true)
    (k34 : PySem.W.keepIn K (.ref f34) = true)
    (a35 : PySem.W.nsIn K mainGlobals "_law_flag" = some (some (.ref f35)))
    (l35 : K.lookup f35 = some ⟨oc35, od35, .func (PySem.W.fnOf "_law_flag" "_law_flag" (defArgs sLFlag) (defBody sLFlag) (defScope sLFlag) .none kV35 dc35 pm35 an35 cd35 ct35), sl35⟩)
    (c35 : PySem.W.codeIn K cd35 "_law_flag" = true)
    (k35 : PySem.W.keepIn K (.ref f35) = true)
    (aL : PySem.W.nsIn K mainGlobals "law" = some (some (.ref fL)))
    (lL : K.lookup fL = some ⟨ocL, odL, .func (PySem.W.fnOf "law" "law" (defArgs sLaw) (defBody sLaw) (defScope sLaw) .none kVL dcL pmL anL cdL ctL), slL⟩)
    (cL : PySem.W.codeIn K cdL "law" = true)
    (kL : PySem.W.keepIn K (.ref fL) = true)
    (aI : PySem.W.findIn K (.ref C) "__init__" = some (some (.ref fI)))
    (lI : K.lookup fI = some ⟨ocI, odI, .func (PySem.W.fnOf "__init__" "Book.__init__" (defArgs sInit) (defBody sInit) (defScope sInit) .none kVI dcI pmI anI cdI ctI), slI⟩)
    (cI : PySem.W.codeIn K cdI "Book.__init__" = true)
    (kI : PySem.W.keepIn K (.ref fI) = true)
    (iI : PySem.W.isFn K (.ref fI) = true)
    (pgC : PySem.W.plainGet K C Str.empty = true)
    (hdC : PySem.W.hasDictIn K C = true)
    (poC : PySem.W.plainOver K C = true)
    (saC : PySem.W.findIn K (.ref C) "__setattr__" = some (some (.builtin "object.__setattr__")))
    (mkC : PySem.W.makesIn K C = true)
    (kcC : PySem.W.keepIn K (.ref C) = true)
    (nP : PySem.W.findIn K (.ref C) "pieces" = some none)
    (z_len : PySem.W.nsIn K mainGlobals "len" = some none)
    (z_range : PySem.W.nsIn K mainGlobals "range" = some none)
    (z_isinstance : PySem.W.nsIn K mainGlobals "isinstance" = some none)
    (z_str : PySem.W.nsIn K mainGlobals "str" = some none)
    (z_all : PySem.W.nsIn K mainGlobals "all" = some none)
    (z_tuple : PySem.W.nsIn K mainGlobals "tuple" = some none)
    (z_int : PySem.W.nsIn K mainGlobals "int" = some none)
    (z_bool : PySem.W.nsIn K mainGlobals "bool" = some none)
    (z_any : PySem.W.nsIn K mainGlobals "any" = some none)
    (z_sorted : PySem.W.nsIn K mainGlobals "sorted" = some none)
    (z_set : PySem.W.nsIn K mainGlobals "set" = some none)
    (z_enumerate : PySem.W.nsIn K mainGlobals "enumerate" = some none)
    (z_sum : PySem.W.nsIn K mainGlobals "sum" = some none)
    (z_max : PySem.W.nsIn K mainGlobals "max" = some none)
    (z_min : PySem.W.nsIn K mainGlobals "min" = some none)
    (z_abs : PySem.W.nsIn K mainGlobals "abs" = some none)
    (z_list : PySem.W.nsIn K mainGlobals "list" = some none)
    (z_super : PySem.W.nsIn K mainGlobals "super" = some none)
    (g1 : PySem.W.nsIn K mainGlobals "LETTERS" = some (some (.str "abcdefgh" tk1)))
    (g2 : PySem.W.nsIn K mainGlobals "MOST_PIECES" = some (some (.int 12 tk2)))
    (g3 : PySem.W.nsIn K mainGlobals "MOST_LONG" = some (some (.int 8 tk3)))
    (g4 : PySem.W.nsIn K mainGlobals "MOST_FREE" = some (some (.int 3000 tk4)))
    (g5 : PySem.W.nsIn K mainGlobals "MOST_SIGNS" = some (some (.int 1000 tk5)))
    (xNE : PySem.W.excIn K NE [.type "ValueError", .type "Exception", .type "BaseException", .type "object"] "ValueError.__new__" = true)
    (xNN : PySem.W.excIn K NN [.type "ValueError", .type "Exception", .type "BaseException", .type "object"] "ValueError.__new__" = true)
    (qLEb : PySem.W.subIn K (.ref LE) (.type "BaseException") = some true)
    (qLEt : PySem.W.typeIn K (.ref LE) = some (.type "type"))
    (qLEh : PySem.W.hasDictIn K LE = true)
    (qNEk : PySem.W.keepIn K (.ref NE) = true)
    (qNEb : PySem.W.subIn K (.ref NE) (.type "BaseException") = some true)
    (qNEt : PySem.W.typeIn K (.ref NE) = some (.type "type"))
    (qNEh : PySem.W.hasDictIn K NE = true)
    (qNNk : PySem.W.keepIn K (.ref NN) = true)
    (qNNb : PySem.W.subIn K (.ref NN) (.type "BaseException") = some true)
    (qNNt : PySem.W.typeIn K (.ref NN) = some (.type "type"))
    (qNNh : PySem.W.hasDictIn K NN = true)
    (qMk : PySem.W.keepIn K (.ref M) = true)
    (qMb : PySem.W.subIn K (.ref M) (.type "BaseException") = some true)
    (qMt : PySem.W.typeIn K (.ref M) = some (.type "type"))
    (qMh : PySem.W.hasDictIn K M = true)
    (sMM : PySem.W.subIn K (.ref M) (.ref M) = some true)
    (sNEM : PySem.W.subIn K (.ref NE) (.ref M) = some false)
    (sNNM : PySem.W.subIn K (.ref NN) (.ref M) = some false)
    (sNELE : PySem.W.subIn K (.ref NE) (.ref LE) = some true)
    (sNNLE : PySem.W.subIn K (.ref NN) (.ref LE) = some true)
    (tNENE : PySem.W.kitOne K (.ref NE) (.ref NE) = some true)
    (tNENN : PySem.W.kitOne K (.ref NE) (.ref NN) = some false)
    (tNNNE : PySem.W.kitOne K (.ref NN) (.ref NE) = some false)
    (tNNNN : PySem.W.kitOne K (.ref NN) (.ref NN) = some true)
    (eNEg : PySem.W.findIn K (.ref NE) "__getattribute__" = some (some (.builtin "BaseException.__getattribute__")))
    (eNEk : PySem.W.findIn K (.ref NE) "__getattr__" = some none)
    (eNNg : PySem.W.findIn K (.ref NN) "__getattribute__" = some (some (.builtin "BaseException.__getattribute__")))
    (eNNk : PySem.W.findIn K (.ref NN) "__getattr__" = some none)
    (eMg : PySem.W.findIn K (.ref M) "__getattribute__" = some (some (.builtin "BaseException.__getattribute__")))
    (eMk : PySem.W.findIn K (.ref M) "__getattr__" = some none)
    (eNEa : PySem.W.findIn K (.ref NE) "__class__" = some (some (.builtin "object.__class__")))
    (eNEm : PySem.W.mroIn K NE (.type "object") = some true)
    (eNNa : PySem.W.findIn K (.ref NN) "__class__" = some (some (.builtin "object.__class__")))
    (eNNm : PySem.W.mroIn K NN (.type "object") = some true)
    (enn : PySem.W.specialIn K (.builtin "object.__class__") "__get__" = some (some (.builtin "getset_descriptor.__get__")))
    (ett : PySem.W.takesIn K (.builtin "object.__class__") = some true)
    (xM : K.lookup M = some (excClassObj nmM qM M NM bsM [.ref LE, .type "ValueError", .type "Exception", .type "BaseException", .type "object"] true snM subM abM colM ddM y0 y1 y2 y3 y5 "ValueError.__new__"))
    (saM : PySem.W.findIn K (.ref M) "__setattr__" = some (some (.builtin "object.__setattr__")))
    (noM : PySem.W.findIn K (.ref M) "most" = some none)
    (iM : PySem.W.findIn K (.ref M) "__init__" = some (some (.ref fM)))
    (tfM : PySem.W.typeIn K (.ref fM) = some (.type "function"))
    (veM : PySem.W.subIn K (.ref M) (.type "ValueError") = some true)
    (supM : PySem.W.ks_superIn K M M "__init__" = some (some (.builtin "ValueError.__init__")))
    (ownM : PySem.W.mroIn K M (.ref M) = some true)
    (anyM : PySem.W.nsIn K cStatics "thirdparty.any" = some none)
    (lM : K.lookup fM = some ⟨ocM, odM, .func (PySem.W.fnX "__init__" "TooMany.__init__" FTE.tA FTE.tB FTE.tS [("__class__", ccM)] .none .none dcM pmM anM (.ref cdM) ctM), slM⟩)
    (cM : PySem.W.codeIn K (.ref cdM) "TooMany.__init__" = true)
    (l2M : K.lookup cdM = some ⟨clM, cddM, .fields vsM, ccsM⟩)
    (v2M : vsM[2]? = some (.str fileM tfl))
    (fM2 : ((l.prog.main.file : Str) == fileM) = true)
    (l3M : K.lookup ccM = some ⟨ccM2, cldM, .cell (some (.ref M)), cslM⟩)
    (topM : (l.prog.main.scope.names.lookup ("super" : Str)).isSome = false) :
    ∃ fd : FuncData, (∀ (s : Shared) (v : Value), BindsTo s fd ⟨[v], []⟩ [("_law_script", v)]) ∧ ∀ base : Heap, K.In base → base.Ns mainGlobals mg → FnOk l.prog w K mg base CX0 7 fa fd ["_law_script"] (spLaw K) := by
  have e := hfa.symm.trans (PySem.W.mg_of X G aL)
  cases e
  have T : Bt mg := ⟨PySem.W.mg_none_of X G z_len, PySem.W.mg_none_of X G z_range, PySem.W.mg_none_of X G z_isinstance, PySem.W.mg_none_of X G z_str, PySem.W.mg_none_of X G z_all, PySem.W.mg_none_of X G z_tuple, PySem.W.mg_none_of X G z_int, PySem.W.mg_none_of X G z_bool, PySem.W.mg_none_of X G z_any, PySem.W.mg_none_of X G z_sorted, PySem.W.mg_none_of X G z_set, PySem.W.mg_none_of X G z_enumerate, PySem.W.mg_none_of X G z_sum, PySem.W.mg_none_of X G z_max, PySem.W.mg_none_of X G z_min, PySem.W.mg_none_of X G z_abs, PySem.W.mg_none_of X G z_list⟩
  have F0 := fun_mk (st := sIsLog) l0 c0 k0
  have b0 := F0.binds (ps := ["thing"]) fun _ _ _ _ _ _ us hl => match us, hl with | [_], _ => rfl
  have D0 : Df K mg sIsLog "is_log" ["thing"] f0 _ := ⟨F0, b0, PySem.W.mg_of X G a0⟩
  have F1 := fun_mk (st := sIsPiece) l1 c1 k1
  have b1 := F1.binds (ps := ["thing"]) fun _ _ _ _ _ _ us hl => match us, hl with | [_], _ => rfl
  have D1 : Df K mg sIsPiece "is_piece" ["thing"] f1 _ := ⟨F1, b1, PySem.W.mg_of X G a1⟩
  have F2 := fun_mk (st := sLetters) l2 c2 k2
  have b2 := F2.binds (ps := ["book"]) fun _ _ _ _ _ _ us hl => match us, hl with | [_], _ => rfl
  have D2 : Df K mg sLetters "letters" ["book"] f2 _ := ⟨F2, b2, PySem.W.mg_of X G a2⟩
  have F3 := fun_mk (st := sIsOwn) l3 c3 k3
  have b3 := F3.binds (ps := ["book", "thing"]) fun _ _ _ _ _ _ us hl => match us, hl with | [_, _], _ => rfl
  have D3 : Df K mg sIsOwn "is_own" ["book", "thing"] f3 _ := ⟨F3, b3, PySem.W.mg_of X G a3⟩
  have F4 := fun_mk (st := sIsInt) l4 c4 k4
  have b4 := F4.binds (ps := ["thing"]) fun _ _ _ _ _ _ us hl => match us, hl with | [_], _ => rfl
  have D4 : Df K mg sIsInt "is_integer" ["thing"] f4 _ := ⟨F4, b4, PySem.W.mg_of X G a4⟩
  have F5 := fun_mk (st := sWithin) l5 c5 k5
  have b5 := F5.binds (ps := ["thing", "least", "most"]) fun _ _ _ _ _ _ us hl => match us, hl with | [_, _, _], _ => rfl
  have D5 : Df K mg sWithin "is_within" ["thing", "least", "most"] f5 _ := ⟨F5, b5, PySem.W.mg_of X G a5⟩
  have F6 := fun_mk (st := sCheckN) l6 c6 k6
  have b6 := F6.binds (ps := ["thing", "least", "most"]) fun _ _ _ _ _ _ us hl => match us, hl with | [_, _, _], _ => rfl
  have D6 : Df K mg sCheckN "check_number" ["thing", "least", "most"] f6 _ := ⟨F6, b6, PySem.W.mg_of X G a6⟩
  have F7 := fun_mk (st := sFronts) l7 c7 k7
  have b7 := F7.binds (ps := ["book"]) fun _ _ _ _ _ _ us hl => match us, hl with | [_], _ => rfl
  have D7 : Df K mg sFronts "fronts_of" ["book"] f7 _ := ⟨F7, b7, PySem.W.mg_of X G a7⟩
  have F8 := fun_mk (st := sHolds) l8 c8 k8
  have b8 := F8.binds (ps := ["book", "text"]) fun _ _ _ _ _ _ us hl => match us, hl with | [_, _], _ => rfl
  have D8 : Df K mg sHolds "holds_piece" ["book", "text"] f8 _ := ⟨F8, b8, PySem.W.mg_of X G a8⟩
  have F9 := fun_mk (st := sNext) l9 c9 k9
  have b9 := F9.binds (ps := ["book"]) fun _ _ _ _ _ _ us hl => match us, hl with | [_], _ => rfl
  have D9 : Df K mg sNext "next_fronts" ["book"] f9 _ := ⟨F9, b9, PySem.W.mg_of X G a9⟩
  have F10 := fun_mk (st := sLongF) l10 c10 k10
  have b10 := F10.binds (ps := ["fronts", "text"]) fun _ _ _ _ _ _ us hl => match us, hl with | [_, _], _ => rfl
  have D10 : Df K mg sLongF "longest_front" ["fronts", "text"] f10 _ := ⟨F10, b10, PySem.W.mg_of X G a10⟩
  have F11 := fun_mk (st := sHts) l11 c11 k11
  have b11 := F11.binds (ps := ["steps"]) fun _ _ _ _ _ _ us hl => match us, hl with | [_], _ => rfl
  have D11 : Df K mg sHts "heights" ["steps"] f11 _ := ⟨F11, b11, PySem.W.mg_of X G a11⟩
  have F12 := fun_mk (st := sEnough) l12 c12 k12
  have b12 := F12.binds (ps := ["book"]) fun _ _ _ _ _ _ us hl => match us, hl with | [_], _ => rfl
  have D12 : Df K mg sEnough "is_enough" ["book"] f12 _ := ⟨F12, b12, PySem.W.mg_of X G a12⟩
  have F13 := fun_mk (st := sCheckE) l13 c13 k13
  have b13 := F13.binds (ps := ["book"]) fun _ _ _ _ _ _ us hl => match us, hl with | [_], _ => rfl
  have D13 : Df K mg sCheckE "check_enough" ["book"] f13 _ := ⟨F13, b13, PySem.W.mg_of X G a13⟩
  have F14 := fun_mk (st := sFree) l14 c14 k14
  have b14 := F14.binds (ps := ["book"]) fun _ _ _ _ _ _ us hl => match us, hl with | [_], _ => rfl
  have D14 : Df K mg sFree "free_texts" ["book"] f14 _ := ⟨F14, b14, PySem.W.mg_of X G a14⟩
  have F15 := fun_mk (st := sLongest) l15 c15 k15
  have b15 := F15.binds (ps := ["book"]) fun _ _ _ _ _ _ us hl => match us, hl with | [_], _ => rfl
  have D15 : Df K mg sLongest "longest_free" ["book"] f15 _ := ⟨F15, b15, PySem.W.mg_of X G a15⟩
  have F16 := fun_mk (st := sCount) l16 c16 k16
  have b16 := F16.binds (ps := ["book", "many"]) fun _ _ _ _ _ _ us hl => match us, hl with | [_, _], _ => rfl
  have D16 : Df K mg sCount "free_count" ["book", "many"] f16 _ := ⟨F16, b16, PySem.W.mg_of X G a16⟩
  have F17 := fun_mk (st := sEndless) l17 c17 k17
  have b17 := F17.binds (ps := ["book"]) fun _ _ _ _ _ _ us hl => match us, hl with | [_], _ => rfl
  have D17 : Df K mg sEndless "endless" ["book"] f17 _ := ⟨F17, b17, PySem.W.mg_of X G a17⟩
  have F18 := fun_mk (st := sStays) l18 c18 k18
  have b18 := F18.binds (ps := ["book", "front", "turned"]) fun _ _ _ _ _ _ us hl => match us, hl with | [_, _, _], _ => rfl
  have D18 : Df K mg sStays "stays_free" ["book", "front", "turned"] f18 _ := ⟨F18, b18, PySem.W.mg_of X G a18⟩
  have F19 := fun_mk (st := sIsEnd) l19 c19 k19
  have b19 := F19.binds (ps := ["book", "thing"]) fun _ _ _ _ _ _ us hl => match us, hl with | [_, _], _ => rfl
  have D19 : Df K mg sIsEnd "is_endless" ["book", "thing"] f19 _ := ⟨F19, b19, PySem.W.mg_of X G a19⟩
  have F20 := fun_mk (st := sLBag) l20 c20 k20
  have b20 := F20.binds (ps := ["_law_script"]) fun _ _ _ _ _ _ us hl => match us, hl with | [_], _ => rfl
  have D20 : Df K mg sLBag "_law_bag" ["_law_script"] f20 _ := ⟨F20, b20, PySem.W.mg_of X G a20⟩
  have F21 := fun_mk (st := sLPick) l21 c21 k21
  have b21 := F21.binds (ps := ["_law_bag_here", "_law_many"]) fun _ _ _ _ _ _ us hl => match us, hl with | [_, _], _ => rfl
  have D21 : Df K mg sLPick "_law_pick" ["_law_bag_here", "_law_many"] f21 _ := ⟨F21, b21, PySem.W.mg_of X G a21⟩
  have F22 := fun_mk (st := sLSome) l22 c22 k22
  have b22 := F22.binds (ps := ["_law_bag_here", "_law_things"]) fun _ _ _ _ _ _ us hl => match us, hl with | [_, _], _ => rfl
  have D22 : Df K mg sLSome "_law_some" ["_law_bag_here", "_law_things"] f22 _ := ⟨F22, b22, PySem.W.mg_of X G a22⟩
  have F23 := fun_mk (st := sLOwn) l23 c23 k23
  have b23 := F23.binds (ps := ["_law_pieces"]) fun _ _ _ _ _ _ us hl => match us, hl with | [_], _ => rfl
  have D23 : Df K mg sLOwn "_law_own" ["_law_pieces"] f23 _ := ⟨F23, b23, PySem.W.mg_of X G a23⟩
  have F24 := fun_mk (st := sLNamed) l24 c24 k24
  have b24 := F24.binds (ps := ["_law_bag_here", "_law_pieces"]) fun _ _ _ _ _ _ us hl => match us, hl with | [_, _], _ => rfl
  have D24 : Df K mg sLNamed "_law_named" ["_law_bag_here", "_law_pieces"] f24 _ := ⟨F24, b24, PySem.W.mg_of X G a24⟩
  have F25 := fun_mk (st := sLMore) l25 c25 k25
  have b25 := F25.binds (ps := ["_law_bag_here", "_law_pieces", "_law_most"]) fun _ _ _ _ _ _ us hl => match us, hl with | [_, _, _], _ => rfl
  have D25 : Df K mg sLMore "_law_more" ["_law_bag_here", "_law_pieces", "_law_most"] f25 _ := ⟨F25, b25, PySem.W.mg_of X G a25⟩
  have F26 := fun_mk (st := sLFull) l26 c26 k26
  have b26 := F26.binds (ps := ["_law_bag_here"]) fun _ _ _ _ _ _ us hl => match us, hl with | [_], _ => rfl
  have D26 : Df K mg sLFull "_law_full" ["_law_bag_here"] f26 _ := ⟨F26, b26, PySem.W.mg_of X G a26⟩
  have F27 := fun_mk (st := sLScant) l27 c27 k27
  have b27 := F27.binds (ps := ["_law_bag_here"]) fun _ _ _ _ _ _ us hl => match us, hl with | [_], _ => rfl
  have D27 : Df K mg sLScant "_law_scant" ["_law_bag_here"] f27 _ := ⟨F27, b27, PySem.W.mg_of X G a27⟩
  have F28 := fun_mk (st := sLGraph) l28 c28 k28
  have b28 := F28.binds (ps := ["_law_pieces"]) fun _ _ _ _ _ _ us hl => match us, hl with | [_], _ => rfl
  have D28 : Df K mg sLGraph "_law_graph" ["_law_pieces"] f28 _ := ⟨F28, b28, PySem.W.mg_of X G a28⟩
  have F29 := fun_mk (st := sLCounts) l29 c29 k29
  have b29 := F29.binds (ps := ["_law_graph_here", "_law_many"]) fun _ _ _ _ _ _ us hl => match us, hl with | [_, _], _ => rfl
  have D29 : Df K mg sLCounts "_law_counts" ["_law_graph_here", "_law_many"] f29 _ := ⟨F29, b29, PySem.W.mg_of X G a29⟩
  have F30 := fun_mk (st := sLLong) l30 c30 k30
  have b30 := F30.binds (ps := ["_law_graph_here"]) fun _ _ _ _ _ _ us hl => match us, hl with | [_], _ => rfl
  have D30 : Df K mg sLLong "_law_longest" ["_law_graph_here"] f30 _ := ⟨F30, b30, PySem.W.mg_of X G a30⟩
  have F31 := fun_mk (st := sLFree) l31 c31 k31
  have b31 := F31.binds (ps := ["_law_pieces", "_law_text"]) fun _ _ _ _ _ _ us hl => match us, hl with | [_, _], _ => rfl
  have D31 : Df K mg sLFree "_law_is_free" ["_law_pieces", "_law_text"] f31 _ := ⟨F31, b31, PySem.W.mg_of X G a31⟩
  have F32 := fun_mk (st := sLAll) l32 c32 k32
  have b32 := F32.binds (ps := ["_law_graph_here", "_law_most"]) fun _ _ _ _ _ _ us hl => match us, hl with | [_, _], _ => rfl
  have D32 : Df K mg sLAll "_law_all_free" ["_law_graph_here", "_law_most"] f32 _ := ⟨F32, b32, PySem.W.mg_of X G a32⟩
  have F33 := fun_mk (st := sLTold) l33 c33 k33
  have b33 := F33.binds (ps := ["_law_book", "_law_which", "_law_many"]) fun _ _ _ _ _ _ us hl => match us, hl with | [_, _, _], _ => rfl
  have D33 : Df K mg sLTold "_law_told" ["_law_book", "_law_which", "_law_many"] f33 _ := ⟨F33, b33, PySem.W.mg_of X G a33⟩
  have F34 := fun_mk (st := sLIsEnd) l34 c34 k34
  have b34 := F34.binds (ps := ["_law_pieces", "_law_pair"]) fun _ _ _ _ _ _ us hl => match us, hl with | [_, _], _ => rfl
  have D34 : Df K mg sLIsEnd "_law_is_endless" ["_law_pieces", "_law_pair"] f34 _ := ⟨F34, b34, PySem.W.mg_of X G a34⟩
  have F35 := fun_mk (st := sLFlag) l35 c35 k35
  have b35 := F35.binds (ps := ["_law_told_here", "_law_due"]) fun _ _ _ _ _ _ us hl => match us, hl with | [_, _], _ => rfl
  have D35 : Df K mg sLFlag "_law_flag" ["_law_told_here", "_law_due"] f35 _ := ⟨F35, b35, PySem.W.mg_of X G a35⟩
  have FI := fun_mk (st := sInit) lI cI kI
  have bI := FI.binds (ps := ["self", "pieces"]) fun _ _ _ _ _ _ us hl => match us, hl with | [_, _], _ => rfl
  have cl : Cls K C := ⟨pgC, hdC, poC, saC⟩
  have X1 : Ex0 K mg "NotEnough" NE := ⟨PySem.W.mg_of X G aNE, xNE, qNEk, qNEb, qNEt⟩
  have X2 : Ex0 K mg "NoNumber" NN := ⟨PySem.W.mg_of X G aNN, xNN, qNNk, qNNb, qNNt⟩
  have EE : Errs K mg LE NE NN M := ⟨PySem.W.mg_of X G aLE, PySem.W.mg_of X G aM, PySem.W.mg_of X G aNE, PySem.W.mg_of X G aNN, PySem.W.exm_ref qMb qMh qMt sMM, PySem.W.exm_ref qMb qMh qMt sNEM, PySem.W.exm_ref qMb qMh qMt sNNM, PySem.W.exm_ref qLEb qLEh qLEt sNELE, PySem.W.exm_ref qLEb qLEh qLEt sNNLE, ⟨eNEg, eNEk, qNEb, qNEh, eNEa, enn, ett, eNEm⟩, ⟨eNNg, eNNk, qNNb, qNNh, eNNa, enn, ett, eNNm⟩, tNENE, tNENN, tNNNE, tNNNN, ⟨eMg, eMk, qMb, qMh⟩, noM⟩
  have TM : FTE.ManyTxt l.prog K mg M fM := { gC := PySem.W.mg_of X G aM, cls := ⟨nmM, qM, NM, bsM, _, snM, subM, abM, colM, ddM, y0, y1, y2, y3, y5, xM, rfl⟩, sa := saM, ga := eMg, gg := eMk, noN := noM, iC := iM, tC := tfM, kC := qMk, exC := qMb, veC := veM, tyC := qMt, hdC := qMh, sup := supM, own := ownM, any := anyM, noS := PySem.W.mg_none_of X G z_super, top := topM, fn := ⟨_, _, _, _, _, _, _, _, _, _, _, _, _, _, _, _, _, _, lM, cM, l2M, v2M, fM2, l3M⟩ }
  refine ⟨PySem.W.fnOf "law" "law" (defArgs sLaw) (defBody sLaw) (defScope sLaw) .none kVL dcL pmL anL cdL ctL, fun s v => .of_eq rfl, fun base _ _ => ?_⟩
  have H0 : Has l.prog w K mg base CX0 1 sIsLog "is_log" ["thing"] spIsLog := ⟨_, _, D0, ok_isLog F0 T (PySem.W.mg_of X G g1)⟩
  have H1 : Has l.prog w K mg base CX0 2 sIsPiece "is_piece" ["thing"] spIsPiece := ⟨_, _, D1, ok_isPiece F1 T (PySem.W.mg_of X G g3) H0⟩
  have H4 : Has l.prog w K mg base CX0 1 sIsInt "is_integer" ["thing"] (spIsInt K) := ⟨_, _, D4, ok_isInt F4 T⟩
  have H5 : Has l.prog w K mg base CX0 2 sWithin "is_within" ["thing", "least", "most"] (spWithin K) := ⟨_, _, D5, ok_within F5 H4⟩
  have H6 : Has l.prog w K mg base (L2.CX l.prog w) 3 sCheckN "check_number" ["thing", "least", "most"] (spCheckN K NN) := ⟨_, _, D6, ok_checkN F6 X2 H5⟩
  have BM : BookMk l.prog w K mg base C := ⟨PySem.W.mg_of X G aC, fI, _, ⟨mkC, aI, iI, kcC⟩, bI, ok_init FI T (PySem.W.mg_of X G g2) cl nP H1⟩
  have H2 : Has l.prog w K mg base CX0 1 sLetters "letters" ["book"] (spLetters K C) := ⟨_, _, D2, ok_letters F2 T cl nP⟩
  have H3 : Has l.prog w K mg base CX0 2 sIsOwn "is_own" ["book", "thing"] (spIsOwn K C) := ⟨_, _, D3, ok_isOwn F3 T H2⟩
  have H8 : Has l.prog w K mg base CX0 1 sHolds "holds_piece" ["book", "text"] (spHolds K C) := ⟨_, _, D8, ok_holds F8 T cl nP⟩
  have H18 : Has l.prog w K mg base CX0 2 sStays "stays_free" ["book", "front", "turned"] (spStays K C) := ⟨_, _, D18, ok_stays F18 T cl nP H8⟩
  have H19 : Has l.prog w K mg base CX0 3 sIsEnd "is_endless" ["book", "thing"] (spIsEnd K C) := ⟨_, _, D19, ok_isEnd F19 T H3 H18⟩
  have H7 : Has l.prog w K mg base CX0 1 sFronts "fronts_of" ["book"] (spFronts K C) := ⟨_, _, D7, ok_fronts F7 T cl nP⟩
  have H10 : Has l.prog w K mg base CX0 1 sLongF "longest_front" ["fronts", "text"] spLongF := ⟨_, _, D10, ok_longF F10⟩
  have H9 : Has l.prog w K mg base CX0 2 sNext "next_fronts" ["book"] (spNext K C) := ⟨_, _, D9, ok_next F9 T cl nP H7 H2 H10⟩
  have H11 : Has l.prog w K mg base CX0 1 sHts "heights" ["steps"] spHts := ⟨_, _, D11, ok_hts F11 T⟩
  have H12 : Has l.prog w K mg base CX0 3 sEnough "is_enough" ["book"] (spEnough K C) := ⟨_, _, D12, ok_enough F12 T H9 H11⟩
  have H13 : Has l.prog w K mg base (L2.CX l.prog w) 4 sCheckE "check_enough" ["book"] (spCheckE K C NE) := ⟨_, _, D13, ok_checkE F13 X1 H12⟩
  have H14 : Has l.prog w K mg base (L2.CX l.prog w) 5 sFree "free_texts" ["book"] (spFree K C NE M) := ⟨_, _, D14, ok_free F14 T (PySem.W.mg_of X G g4) TM H13 H9⟩
  have H15 : Has l.prog w K mg base (L2.CX l.prog w) 5 sLongest "longest_free" ["book"] (spLongest K C NE) := ⟨_, _, D15, ok_longest F15 H13 H9 H11⟩
  have H16 : Has l.prog w K mg base (L2.CX l.prog w) 4 sCount "free_count" ["book", "many"] (spCount K C NN) := ⟨_, _, D16, ok_count F16 T (PySem.W.mg_of X G g5) H6 H9⟩
  have H17 : Has l.prog w K mg base CX0 3 sEndless "endless" ["book"] (spEndless K C) := ⟨_, _, D17, ok_endless F17 T H9 H11⟩
  have H20 : Has l.prog w K mg base CX0 1 sLBag "_law_bag" ["_law_script"] (spLBag K) := ⟨_, _, D20, ok_lbag F20 T⟩
  have H21 : Has l.prog w K mg base CX0 1 sLPick "_law_pick" ["_law_bag_here", "_law_many"] spLPick := ⟨_, _, D21, ok_lpick F21 T⟩
  have H22 : Has l.prog w K mg base CX0 2 sLSome "_law_some" ["_law_bag_here", "_law_things"] (spLSome K) := ⟨_, _, D22, ok_lsome F22 T H21⟩
  have H23 : Has l.prog w K mg base CX0 1 sLOwn "_law_own" ["_law_pieces"] (spLOwn K) := ⟨_, _, D23, ok_lown F23 T⟩
  have H24 : Has l.prog w K mg base CX0 2 sLNamed "_law_named" ["_law_bag_here", "_law_pieces"] spLNamed := ⟨_, _, D24, ok_lnamed F24 T H21⟩
  have H25 : Has l.prog w K mg base CX0 3 sLMore "_law_more" ["_law_bag_here", "_law_pieces", "_law_most"] spLMore := ⟨_, _, D25, ok_lmore F25 T H21 H22⟩
  have H26 : Has l.prog w K mg base CX0 4 sLFull "_law_full" ["_law_bag_here"] spLPieces := ⟨_, _, D26, ok_lfull F26 H22 H25 H24⟩
  have H27 : Has l.prog w K mg base CX0 4 sLScant "_law_scant" ["_law_bag_here"] spLPieces := ⟨_, _, D27, ok_lscant F27 H21 H22 H25 H24⟩
  have H28 : Has l.prog w K mg base CX0 2 sLGraph "_law_graph" ["_law_pieces"] spLGraph := ⟨_, _, D28, ok_lgraph F28 T H23⟩
  have H29 : Has l.prog w K mg base CX0 1 sLCounts "_law_counts" ["_law_graph_here", "_law_many"] spLCounts := ⟨_, _, D29, ok_lcounts F29 T⟩
  have H30 : Has l.prog w K mg base CX0 2 sLLong "_law_longest" ["_law_graph_here"] spLLong := ⟨_, _, D30, ok_llong F30 T H29⟩
  have H31 : Has l.prog w K mg base CX0 1 sLFree "_law_is_free" ["_law_pieces", "_law_text"] (spLFree K) := ⟨_, _, D31, ok_lfree F31 T⟩
  have H32 : Has l.prog w K mg base CX0 1 sLAll "_law_all_free" ["_law_graph_here", "_law_most"] spLAll := ⟨_, _, D32, ok_lall F32 T⟩
  have H33 : Has l.prog w K mg base CX0 6 sLTold "_law_told" ["_law_book", "_law_which", "_law_many"] (spLTold K C) := ⟨_, _, D33, ok_ltold F33 T EE H14 H15 H16⟩
  have H34 : Has l.prog w K mg base CX0 2 sLIsEnd "_law_is_endless" ["_law_pieces", "_law_pair"] (spLIsEnd K) := ⟨_, _, D34, ok_lisEnd F34 T H23 H31⟩
  have H35 : Has l.prog w K mg base CX0 1 sLFlag "_law_flag" ["_law_told_here", "_law_due"] spLFlag := ⟨_, _, D35, ok_lflag F35 T⟩
  exact ok_law (NN := NN) (fun_mk (st := sLaw) lL cL kL) T BM H20 H21 H22 H26 H27 H28 H30 H23 H35 H12 H33 H29 H17 H34 H19 H32 H14 H31
theorem walk {l : PySem.W.OpenLaw} {q : Program} {loose : List Str} {XP : (Str → Option Value) → Heap → Prop} {YP : World → Heap → Prop} {d : DefRec} {K : Params → PySem.W.Frag} (hn : l.most = some 63) (hdf : d.params.defaults = [])
    (hY : ∀ (w : World) (h : Heap), YP w h → (K w.params).In h)
    (F : ∀ (w : World) (mg : Str → Option Value) (fa : Addr) (h : Heap), (K w.params).In h → h.Ns mainGlobals mg → mg d.name = some (.ref fa) →
      ∃ fd : FuncData, (∀ (s : Shared) (u : Value), BindsTo s fd ⟨[u], []⟩ [("_law_script", u)]) ∧ ∀ base : Heap, (K w.params).In base → base.Ns mainGlobals mg → FnOk l.prog w (K w.params) mg base CX0 7 fa fd ["_law_script"] (spLaw (K w.params))) :
    PySem.W.WalkO q loose XP YP l.row.toRowW d [] (fun f vs => PySem.call f vs) :=
  L2.walk_of (n := 63) (k := 7) (x := "_law_script") (CX := fun _ => CX0) (sp := fun w => spLaw (K w.params)) hn (by decide) hdf ⟨rfl, by decide, by decide⟩ hY F (fun _ _ a ns few _ hS => ⟨a, ns, rfl, hS, few, fun _ => rfl⟩) fun _ _ _ _ _ z => z
end FTW
end
set_option Elab.async false
open PySem PySem.W PyProof.Rows in
set_option maxRecDepth 100000 in
set_option maxHeartbeats 0 in
theorem PySem.Challenge.cw_struckpieces_k10_whole_free_texts_holds : PySem.Challenge.rw_struckpieces_k10_whole_free_texts.Holds := by
  w_on; o_law; k_head; (case hw => w_witness2)
  k_fill
  refine FTW.walk (l := PySem.Challenge.rw_struckpieces_k10_whole_free_texts) rfl rfl (fun w h Y => PySem.W.kIn_of Y) ?F
  case F =>
    intro w mg fa h KX G hmg
    refine' FTW.all_mk KX G hmg ?aC ?aLE ?aNE ?aNN ?aM ?a0 ?l0 ?c0 ?k0 ?a1 ?l1 ?c1 ?k1 ?a2 ?l2 ?c2 ?k2 ?a3 ?l3 ?c3 ?k3 ?a4 ?l4 ?c4 ?k4 ?a5 ?l5 ?c5 ?k5 ?a6 ?l6 ?c6 ?k6 ?a7 ?l7 ?c7 ?k7 ?a8 ?l8 ?c8 ?k8 ?a9 ?l9 ?c9 ?k9 ?a10 ?l10 ?c10 ?k10 ?a11 ?l11 ?c11 ?k11 ?a12 ?l12 ?c12 ?k12 ?a13 ?l13 ?c13 ?k13 ?a14 ?l14 ?c14 ?k14 ?a15 ?l15 ?c15 ?k15 ?a16 ?l16 ?c16 ?k16 ?a17 ?l17 ?c17 ?k17 ?a18 ?l18 ?c18 ?k18 ?a19 ?l19 ?c19 ?k19 ?a20 ?l20 ?c20 ?k20 ?a21 ?l21 ?c21 ?k21 ?a22 ?l22 ?c22 ?k22 ?a23 ?l23 ?c23 ?k23 ?a24 ?l24 ?c24 ?k24 ?a25 ?l25 ?c25 ?k25 ?a26 ?l26 ?c26 ?k26 ?a27 ?l27 ?c27 ?k27 ?a28 ?l28 ?c28 ?k28 ?a29 ?l29 ?c29 ?k29 ?a30 ?l30 ?c30 ?k30 ?a31 ?l31 ?c31 ?k31 ?a32 ?l32 ?c32 ?k32 ?a33 ?l33 ?c33 ?k33 ?a34 ?l34 ?c34 ?k34 ?a35 ?l35 ?c35 ?k35 ?aL ?lL ?cL ?kL ?aI ?lI ?cI ?kI ?iI ?pgC ?hdC ?poC ?saC ?mkC ?kcC ?nP ?z_len ?z_range ?z_isinstance ?z_str ?z_all ?z_tuple ?z_int ?z_bool ?z_any ?z_sorted ?z_set ?z_enumerate ?z_sum ?z_max ?z_min ?z_abs ?z_list ?z_super ?g1 ?g2 ?g3 ?g4 ?g5 ?xNE ?xNN ?qLEb ?qLEt ?qLEh ?qNEk ?qNEb ?qNEt ?qNEh ?qNNk ?qNNb ?qNNt ?qNNh ?qMk ?qMb ?qMt ?qMh ?sMM ?sNEM ?sNNM ?sNELE ?sNNLE ?tNENE ?tNENN ?tNNNE ?tNNNN ?eNEg ?eNEk ?eNNg ?eNNk ?eMg ?eMk ?eNEa ?eNEm ?eNNa ?eNNm ?enn ?ett ?xM ?saM ?noM ?iM ?tfM ?veM ?supM ?ownM ?anyM ?lM ?cM ?l2M ?v2M ?fM2 ?l3M ?topM
    (case aC => k_is)
    (case aLE => k_is)
    (case aNE => k_is)
    (case aNN => k_is)
    (case aM => k_is)
    (case a0 => k_is)
    (case l0 => k_is)
    (case c0 => k_is)
    (case k0 => k_is)
    (case a1 => k_is)
    (case l1 => k_is)
    (case c1 => k_is)
    (case k1 => k_is)
    (case a2 => k_is)
    (case l2 => k_is)
    (case c2 => k_is)
    (case k2 => k_is)
    (case a3 => k_is)
    (case l3 => k_is)
    (case c3 => k_is)
    (case k3 => k_is)
    (case a4 => k_is)
    (case l4 => k_is)
    (case c4 => k_is)
    (case k4 => k_is)
    (case a5 => k_is)
    (case l5 => k_is)
    (case c5 => k_is)
    (case k5 => k_is)
    (case a6 => k_is)
    (case l6 => k_is)
    (case c6 => k_is)
    (case k6 => k_is)
    (case a7 => k_is)
    (case l7 => k_is)
    (case c7 => k_is)
    (case k7 => k_is)
    (case a8 => k_is)
    (case l8 => k_is)
    (case c8 => k_is)
    (case k8 => k_is)
    (case a9 => k_is)
    (case l9 => k_is)
    (case c9 => k_is)
    (case k9 => k_is)
    (case a10 => k_is)
    (case l10 => k_is)
    (case c10 => k_is)
    (case k10 => k_is)
    (case a11 => k_is)
    (case l11 => k_is)
    (case c11 => k_is)
    (case k11 => k_is)
    (case a12 => k_is)
    (case l12 => k_is)
    (case c12 => k_is)
    (case k12 => k_is)
    (case a13 => k_is)
    (case l13 => k_is)
    (case c13 => k_is)
    (case k13 => k_is)
    (case a14 => k_is)
    (case l14 => k_is)
    (case c14 => k_is)
    (case k14 => k_is)
    (case a15 => k_is)
    (case l15 => k_is)
    (case c15 => k_is)
    (case k15 => k_is)
    (case a16 => k_is)
    (case l16 => k_is)
    (case c16 => k_is)
    (case k16 => k_is)
    (case a17 => k_is)
    (case l17 => k_is)
    (case c17 => k_is)
    (case k17 => k_is)
    (case a18 => k_is)
    (case l18 => k_is)
    (case c18 => k_is)
    (case k18 => k_is)
    (case a19 => k_is)
    (case l19 => k_is)
    (case c19 => k_is)
    (case k19 => k_is)
    (case a20 => k_is)
    (case l20 => k_is)
    (case c20 => k_is)
    (case k20 => k_is)
    (case a21 => k_is)
    (case l21 => k_is)
    (case c21 => k_is)
    (case k21 => k_is)
    (case a22 => k_is)
    (case l22 => k_is)
    (case c22 => k_is)
    (case k22 => k_is)
    (case a23 => k_is)
    (case l23 => k_is)
    (case c23 => k_is)
    (case k23 => k_is)
    (case a24 => k_is)
    (case l24 => k_is)
    (case c24 => k_is)
    (case k24 => k_is)
    (case a25 => k_is)
    (case l25 => k_is)
    (case c25 => k_is)
    (case k25 => k_is)
    (case a26 => k_is)
    (case l26 => k_is)
    (case c26 => k_is)
    (case k26 => k_is)
    (case a27 => k_is)
    (case l27 => k_is)
    (case c27 => k_is)
    (case k27 => k_is)
    (case a28 => k_is)
    (case l28 => k_is)
    (case c28 => k_is)
    (case k28 => k_is)
    (case a29 => k_is)
    (case l29 => k_is)
    (case c29 => k_is)
    (case k29 => k_is)
    (case a30 => k_is)
    (case l30 => k_is)
    (case c30 => k_is)
    (case k30 => k_is)
    (case a31 => k_is)
    (case l31 => k_is)
    (case c31 => k_is)
    (case k31 => k_is)
    (case a32 => k_is)
    (case l32 => k_is)
    (case c32 => k_is)
    (case k32 => k_is)
    (case a33 => k_is)
    (case l33 => k_is)
    (case c33 => k_is)
    (case k33 => k_is)
    (case a34 => k_is)
    (case l34 => k_is)
    (case c34 => k_is)
    (case k34 => k_is)
    (case a35 => k_is)
    (case l35 => k_is)
    (case c35 => k_is)
    (case k35 => k_is)
    (case aL => k_is)
    (case lL => k_is)
    (case cL => k_is)
    (case kL => k_is)
    (case aI => k_is)
    (case lI => k_is)
    (case cI => k_is)
    (case kI => k_is)
    (case iI => k_is)
    (case pgC => k_is)
    (case hdC => k_is)
    (case poC => k_is)
    (case saC => k_is)
    (case mkC => k_is)
    (case kcC => k_is)
    (case nP => k_is)
    (case z_len => k_is)
    (case z_range => k_is)
    (case z_isinstance => k_is)
    (case z_str => k_is)
    (case z_all => k_is)
    (case z_tuple => k_is)
    (case z_int => k_is)
    (case z_bool => k_is)
    (case z_any => k_is)
    (case z_sorted => k_is)
    (case z_set => k_is)
    (case z_enumerate => k_is)
    (case z_sum => k_is)
    (case z_max => k_is)
    (case z_min => k_is)
    (case z_abs => k_is)
    (case z_list => k_is)
    (case z_super => k_is)
    (case g1 => k_is)
    (case g2 => k_is)
    (case g3 => k_is)
    (case g4 => k_is)
    (case g5 => k_is)
    (case xNE => k_exc)
    (case xNN => k_exc)
    (case qLEb => k_is)
    (case qLEt => k_is)
    (case qLEh => k_is)
    (case qNEk => k_is)
    (case qNEb => k_is)
    (case qNEt => k_is)
    (case qNEh => k_is)
    (case qNNk => k_is)
    (case qNNb => k_is)
    (case qNNt => k_is)
    (case qNNh => k_is)
    (case qMk => k_is)
    (case qMb => k_is)
    (case qMt => k_is)
    (case qMh => k_is)
    (case sMM => first | rfl | k_is)
    (case sNEM => k_is)
    (case sNNM => k_is)
    (case sNELE => k_is)
    (case sNNLE => k_is)
    (case tNENE => first | rfl | k_is)
    (case tNENN => kit_is)
    (case tNNNE => kit_is)
    (case tNNNN => first | rfl | k_is)
    (case eNEg => k_is)
    (case eNEk => k_is)
    (case eNNg => k_is)
    (case eNNk => k_is)
    (case eMg => k_is)
    (case eMk => k_is)
    (case eNEa => k_is)
    (case eNEm => k_is)
    (case eNNa => k_is)
    (case eNNm => k_is)
    (case enn => k_is)
    (case ett => k_is)
    (case xM => k_is)
    (case saM => k_is)
    (case noM => k_is)
    (case iM => k_is)
    (case tfM => k_is)
    (case veM => k_is)
    (case supM => ks_is)
    (case ownM => k_is)
    (case anyM => k_is)
    (case lM => k_is)
    (case cM => k_is)
    (case l2M => k_is)
    (case v2M => first | rfl | k_is)
    (case fM2 => first | rfl | decide +kernel | k_is)
    (case l3M => k_is)
    (case topM => first | rfl | decide +kernel)
