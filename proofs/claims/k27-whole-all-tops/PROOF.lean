import PyProof.Rows.All
import Wide.All
import OpenK.AllK
import Wide.FinOn
import HandS.ForMost
import HandS.More
import HandS.TupLe
import HandS.Replace
import KE.KStar
import HandS.Zip
import KE.GoesMore
import KE.GoesEnum
import HandS.Walk
import HandS.Set
import HandS.Strs
import PyProof.Rows.SortShellAny
import HandS.Ends
import HandS.HeadEnd
import HandS.Defaults
import HandS.FStrTup
import PyProof.ReprRoads
import HandS.SetKeys
import HandS.DictComp
import HandS.Conv
import HandS.Style
import HandS.Flow
import HandS.Codes
import HandS.Exc
import HandS.StrMore
import HandS.StrSplit
import HandS.Wide
import HandS.Text
import KE.KStateDown
import Lean
import HandS.Base
import HandS.Call
import HandS.EndBits
import HandS.Words
import HandS.WordsExc
import HandS.Head0
import HandS.Head1
import HandS.Head2
import HandS.HeadHook1
import HandS.HeadHook2
import PySem.Challenge.RW_lookdepth_k27_whole_all_tops
set_option Elab.async false
set_option linter.all false
set_option maxRecDepth 100000
set_option maxHeartbeats 0
/-! K27: the mathematics of all_tops, in plain Lean: no program in sight. -/
namespace K27
/-! ### sorted, each once -/
section SD
variable {α : Type} [DecidableEq α] (lt : α → α → Bool)
def ins (a : α) : List α → List α
  | [] => [a]
  | b :: r => if a = b then b :: r else if lt a b then a :: b :: r else b :: ins a r
def sdG (l : List α) : List α := l.foldr (ins lt) []
structure Lin : Prop where
  irr : ∀ a, lt a a = false
  tr : ∀ a b c, lt a b = true → lt b c = true → lt a c = true
  tri : ∀ a b, a ≠ b → lt a b = true ∨ lt b a = true
abbrev AscG (l : List α) : Prop := l.Pairwise fun a b => lt a b = true
variable {lt}
theorem mem_ins (a x : α) : ∀ l : List α, x ∈ ins lt a l ↔ x = a ∨ x ∈ l
  | [] => by simp [ins]
  | b :: r => by
    unfold ins
    split
    · rename_i h
      subst h
      simp
    · split
      · simp
      · rw [List.mem_cons, mem_ins a x r, List.mem_cons]
        constructor
        · rintro (h | h | h)
          · exact .inr (.inl h)
          · exact .inl h
          · exact .inr (.inr h)
        · rintro (h | h | h)
          · exact .inr (.inl h)
          · exact .inl h
          · exact .inr (.inr h)
theorem mem_sdG (x : α) : ∀ l : List α, x ∈ sdG lt l ↔ x ∈ l
  | [] => by simp [sdG]
  | b :: r => by
    show x ∈ ins lt b (sdG lt r) ↔ _
    rw [mem_ins, mem_sdG x r, List.mem_cons]
theorem asc_ins (L : Lin lt) (a : α) : ∀ l : List α, AscG lt l → AscG lt (ins lt a l)
  | [], _ => by
    unfold ins
    exact List.pairwise_singleton _ _
  | b :: r, h => by
    obtain ⟨h1, h2⟩ := List.pairwise_cons.mp h
    unfold ins
    split
    · exact h
    · rename_i hab
      split
      · rename_i hl
        refine List.pairwise_cons.mpr ⟨fun x hx => ?_, h⟩
        rcases List.mem_cons.mp hx with e | hx
        · rw [e]
          exact hl
        · exact L.tr _ _ _ hl (h1 x hx)
      · rename_i hl
        refine List.pairwise_cons.mpr ⟨fun x hx => ?_, asc_ins L a r h2⟩
        rcases (mem_ins a x r).mp hx with e | hx
        · rw [e]
          exact (L.tri a b hab).resolve_left hl
        · exact h1 x hx
theorem asc_sdG (L : Lin lt) : ∀ l : List α, AscG lt (sdG lt l)
  | [] => List.Pairwise.nil
  | b :: r => asc_ins L b _ (asc_sdG L r)
theorem asc_ext (L : Lin lt) : ∀ {a b : List α}, AscG lt a → AscG lt b → (∀ x, x ∈ a ↔ x ∈ b) → a = b
  | [], [], _, _, _ => rfl
  | [], y :: s, _, _, h => absurd ((h y).mpr List.mem_cons_self) List.not_mem_nil
  | x :: r, [], _, _, h => absurd ((h x).mp List.mem_cons_self) List.not_mem_nil
  | x :: r, y :: s, ha, hb, h => by
    obtain ⟨a1, a2⟩ := List.pairwise_cons.mp ha
    obtain ⟨b1, b2⟩ := List.pairwise_cons.mp hb
    have exy : x = y := by
      rcases List.mem_cons.mp ((h x).mp List.mem_cons_self) with e | e
      · exact e
      · rcases List.mem_cons.mp ((h y).mpr List.mem_cons_self) with e2 | e2
        · exact e2.symm
        · have h1 := L.tr _ _ _ (a1 y e2) (b1 x e)
          rw [L.irr] at h1
          cases h1
    subst exy
    have ers : r = s := asc_ext L a2 b2 fun z => by
      constructor
      · intro hz
        rcases List.mem_cons.mp ((h z).mp (List.mem_cons_of_mem _ hz)) with e | e
        · have h1 := a1 z hz
          rw [e, L.irr] at h1
          cases h1
        · exact e
      · intro hz
        rcases List.mem_cons.mp ((h z).mpr (List.mem_cons_of_mem _ hz)) with e | e
        · have h1 := b1 z hz
          rw [e, L.irr] at h1
          cases h1
        · exact e
    rw [ers]
theorem asc_nodup (L : Lin lt) {l : List α} (h : AscG lt l) : l.Nodup :=
  h.imp fun {a b} hab e => by
    rw [e, L.irr] at hab
    cases hab
theorem ins_len (a : α) : ∀ l : List α, (ins lt a l).length ≤ l.length + 1
  | [] => by simp [ins]
  | b :: r => by
    unfold ins
    split
    · simp
    · split
      · simp
      · have := ins_len a r
        simp only [List.length_cons]
        omega
theorem sdG_len : ∀ l : List α, (sdG lt l).length ≤ l.length
  | [] => Nat.le_refl _
  | b :: r => by
    have h := sdG_len r
    have h2 := ins_len (lt := lt) b (sdG lt r)
    show (ins lt b (sdG lt r)).length ≤ r.length + 1
    omega
end SD
def ltN (a b : Nat) : Bool := decide (a < b)
def ltL (a b : List Nat) : Bool := decide (a < b)
theorem linN : Lin ltN where
  irr a := by simp [ltN]
  tr a b c h1 h2 := by
    simp only [ltN, decide_eq_true_eq] at *
    omega
  tri a b h := by
    simp only [ltN, decide_eq_true_eq]
    omega
theorem lex_tri (a b : List Nat) (h : a ≠ b) : a < b ∨ b < a := by
  by_cases h1 : a < b
  · exact .inl h1
  · by_cases h2 : b < a
    · exact .inr h2
    · exact absurd (List.le_antisymm (List.not_lt.mp h2) (List.not_lt.mp h1)) h
theorem linL : Lin ltL where
  irr a := decide_eq_false (List.lt_irrefl a)
  tr a b c h1 h2 := decide_eq_true (List.lt_trans (of_decide_eq_true h1) (of_decide_eq_true h2))
  tri a b h := (lex_tri a b h).imp (fun x => decide_eq_true x) (fun x => decide_eq_true x)
abbrev sdN : List Nat → List Nat := sdG ltN
abbrev sdL : List (List Nat) → List (List Nat) := sdG ltL
theorem ins_one (a : Nat) : ∀ l : List Nat, ins ltL [a] (l.map fun c => [c]) = (ins ltN a l).map fun c => [c]
  | [] => rfl
  | b :: r => by
    have e1 : ([a] = [b]) ↔ a = b := by simp
    have e2 : ltL [a] [b] = ltN a b := by
      unfold ltL ltN
      refine decide_eq_decide.mpr ?_
      rw [List.cons_lt_cons_iff]
      constructor
      · rintro (h | ⟨_, h⟩)
        · exact h
        · exact absurd h (List.lt_irrefl [])
      · exact .inl
    show (if [a] = [b] then _ else if ltL [a] [b] = true then _ else _) = List.map _ (if a = b then _ else if ltN a b = true then _ else _)
    rw [e2]
    by_cases h : a = b
    · rw [if_pos (e1.mpr h), if_pos h]
      rfl
    · rw [if_neg (fun x => h (e1.mp x)), if_neg h]
      by_cases h2 : ltN a b = true
      · rw [if_pos h2, if_pos h2]
        rfl
      · rw [if_neg h2, if_neg h2]
        show [b] :: ins ltL [a] (r.map fun c => [c]) = _
        rw [ins_one a r]
        rfl
theorem sd_one : ∀ l : List Nat, sdL (l.map fun c => [c]) = (sdN l).map fun c => [c]
  | [] => rfl
  | b :: r => by
    show ins ltL [b] (sdL (r.map fun c => [c])) = (ins ltN b (sdN r)).map _
    rw [sd_one r, ins_one]
theorem flatten_one : ∀ l : List Nat, (l.map fun c => [c]).flatten = l
  | [] => rfl
  | b :: r => by
    show [b] ++ (r.map fun c => [c]).flatten = b :: r
    rw [flatten_one r]
    rfl
/-! ### dicts -/
section A
variable {κ β : Type} [DecidableEq κ]
def aget : List (κ × β) → κ → Option β
  | [], _ => none
  | p :: r, k => if p.1 = k then some p.2 else aget r k
def aput : List (κ × β) → κ → β → List (κ × β)
  | [], k, v => [(k, v)]
  | p :: r, k, v => if p.1 = k then (p.1, v) :: r else p :: aput r k v
theorem aget_aput (k j : κ) (v : β) : ∀ kv : List (κ × β), aget (aput kv k v) j = if k = j then some v else aget kv j
  | [] => rfl
  | p :: r => by
    unfold aput
    by_cases h : p.1 = k
    · rw [if_pos h]
      show (if p.1 = j then some v else aget r j) = if k = j then some v else if p.1 = j then some p.2 else aget r j
      rw [h]
      split <;> rfl
    · rw [if_neg h]
      show (if p.1 = j then some p.2 else aget (aput r k v) j) = if k = j then some v else if p.1 = j then some p.2 else aget r j
      rw [aget_aput k j v r]
      by_cases h2 : p.1 = j
      · rw [if_pos h2, if_pos h2, if_neg]
        intro e
        exact h (h2.trans e.symm)
      · rw [if_neg h2, if_neg h2]
theorem aget_mem {k : κ} {v : β} : ∀ {kv : List (κ × β)}, aget kv k = some v → (k, v) ∈ kv
  | [], h => nomatch h
  | p :: r, h => by
    unfold aget at h
    split at h
    · rename_i e
      cases h
      rw [← e]
      exact List.mem_cons_self
    · exact List.mem_cons_of_mem _ (aget_mem h)
theorem aget_none {k : κ} : ∀ {kv : List (κ × β)}, aget kv k = none → k ∉ kv.map (·.1)
  | [], _ => fun h => nomatch h
  | p :: r, h => by
    unfold aget at h
    split at h
    · cases h
    · rename_i e
      rw [List.map_cons, List.mem_cons]
      rintro (h2 | h2)
      · exact e h2.symm
      · exact aget_none h h2
theorem aget_some {k : κ} : ∀ {kv : List (κ × β)}, k ∈ kv.map (·.1) → ∃ v, aget kv k = some v
  | [], h => nomatch h
  | p :: r, h => by
    unfold aget
    by_cases e : p.1 = k
    · exact ⟨p.2, if_pos e⟩
    · rw [if_neg e]
      rw [List.map_cons, List.mem_cons] at h
      exact aget_some (h.resolve_left fun z => e z.symm)
theorem aget_of_mem {k : κ} {v : β} : ∀ {kv : List (κ × β)}, (kv.map (·.1)).Nodup → (k, v) ∈ kv → aget kv k = some v
  | [], _, h => nomatch h
  | p :: r, hn, h => by
    rw [List.map_cons, List.nodup_cons] at hn
    unfold aget
    rcases List.mem_cons.mp h with e | h
    · rw [← e]
      exact if_pos rfl
    · rw [if_neg]
      · exact aget_of_mem hn.2 h
      · intro e
        exact hn.1 (e ▸ List.mem_map.mpr ⟨(k, v), h, rfl⟩)
theorem aput_new {k : κ} (v : β) : ∀ {kv : List (κ × β)}, aget kv k = none → aput kv k v = kv ++ [(k, v)]
  | [], _ => rfl
  | p :: r, h => by
    unfold aget at h
    unfold aput
    split at h
    · cases h
    · rename_i e
      rw [if_neg e, aput_new v h]
      rfl
theorem aput_keys {k : κ} {t : β} (v : β) : ∀ {kv : List (κ × β)}, aget kv k = some t → (aput kv k v).map (·.1) = kv.map (·.1)
  | [], h => nomatch h
  | p :: r, h => by
    unfold aget at h
    unfold aput
    split at h
    · rename_i e
      rw [if_pos e]
      rfl
    · rename_i e
      rw [if_neg e, List.map_cons, List.map_cons, aput_keys v h]
end A
/-! ### tables -/
structure Grid where
  w : Nat
  rows : List (List Nat)
namespace Grid
variable (g : Grid)
def let_ : List Nat := sdN g.rows.flatten
def Way (a : Nat) (y : List Nat) : Prop := ∃ r, (a :: r) ∈ g.rows ∧ y.Perm r
def Can (ls : List (List Nat)) (a : Nat) : Prop := ∃ y, g.Way a y ∧ ∀ (j c : Nat) (l : List Nat), y[j]? = some c → ls[j]? = some l → c ∈ l
noncomputable def F (ls : List (List Nat)) : List Nat := g.let_.filter fun a => @decide (g.Can ls a) (Classical.propDecidable _)
structure Ok : Prop where
  w23 : g.w = 2 ∨ g.w = 3
  len : ∀ r ∈ g.rows, r.length = g.w + 1
  few : g.let_.length ≤ 4
inductive Der : List Nat → List Nat → Prop
  | leaf : Der g.let_ [46]
  | node (ps : List (List Nat × List Nat)) : ps.length = g.w → (∀ p ∈ ps, Der p.1 p.2) → Der (g.F (ps.map (·.1))) (43 :: (ps.map (·.2)).flatten)
end Grid
variable {g : Grid}
theorem let_asc : AscG ltN g.let_ := asc_sdG linN _
theorem F_asc (ls : List (List Nat)) : AscG ltN (g.F ls) := List.Pairwise.sublist List.filter_sublist let_asc
theorem way_let {a : Nat} {y : List Nat} (h : g.Way a y) : a ∈ g.let_ := by
  obtain ⟨r, hr, _⟩ := h
  exact (mem_sdG a _).mpr (List.mem_flatten.mpr ⟨_, hr, List.mem_cons_self⟩)
theorem mem_F {ls : List (List Nat)} {a : Nat} : a ∈ g.F ls ↔ g.Can ls a := by
  unfold Grid.F
  rw [List.mem_filter, @decide_eq_true_eq _ (Classical.propDecidable _)]
  constructor
  · exact fun h => h.2
  · intro h
    refine ⟨?_, h⟩
    obtain ⟨y, hw, _⟩ := h
    exact way_let hw
theorem Can_mono {ls ms : List (List Nat)} {a : Nat} (h : ∀ (j : Nat) (l : List Nat), ms[j]? = some l → ∃ l', ls[j]? = some l' ∧ ∀ c ∈ l', c ∈ l) (x : g.Can ls a) : g.Can ms a := by
  obtain ⟨y, hw, hy⟩ := x
  refine ⟨y, hw, fun j c l h1 h2 => ?_⟩
  obtain ⟨l', e, hl⟩ := h j l h2
  exact hl c (hy j c l' h1 e)
theorem Grid.Der.sub {l s : List Nat} (h : g.Der l s) : ∀ c ∈ l, c ∈ g.let_ := by
  cases h with
  | leaf => exact fun c hc => hc
  | node ps _ _ => exact fun c hc => (List.mem_filter.mp hc).1
theorem Grid.Der.asc {l s : List Nat} (h : g.Der l s) : AscG ltN l := by
  cases h with
  | leaf => exact let_asc
  | node ps _ _ => exact F_asc _
/-- what can stand above the place without children, so many times -/
noncomputable def T1 (g : Grid) : List Nat := g.F (List.replicate g.w g.let_)
theorem Can_T1 {ps : List (List Nat × List Nat)} (hl : ps.length = g.w) (hd : ∀ p ∈ ps, g.Der p.1 p.2) {a : Nat} (h : g.Can (ps.map (·.1)) a) : g.Can (List.replicate g.w g.let_) a := by
  refine Can_mono (fun j l e => ?_) h
  rw [List.getElem?_replicate] at e
  split at e
  · rename_i hj
    cases e
    rw [← hl] at hj
    refine ⟨ps[j].1, by rw [List.getElem?_map, List.getElem?_eq_getElem hj]; rfl, fun c hc => ?_⟩
    exact (hd ps[j] (List.getElem_mem hj)).sub c hc
  · cases e
def subl : List Nat → List (List Nat)
  | [] => [[]]
  | a :: r => subl r ++ (subl r).map (a :: ·)
theorem subl_len : ∀ l : List Nat, (subl l).length = 2 ^ l.length
  | [] => rfl
  | a :: r => by
    show (subl r ++ (subl r).map (a :: ·)).length = 2 ^ (r.length + 1)
    rw [List.length_append, List.length_map, subl_len r, Nat.pow_succ]
    omega
theorem filter_subl (p : Nat → Bool) : ∀ l : List Nat, l.filter p ∈ subl l
  | [] => by simp [subl]
  | a :: r => by
    show _ ∈ subl r ++ (subl r).map (a :: ·)
    rw [List.filter_cons]
    split
    · exact List.mem_append_right _ (List.mem_map.mpr ⟨_, filter_subl p r, rfl⟩)
    · exact List.mem_append_left _ (filter_subl p r)
/-- all lots that there can be -/
noncomputable def U (g : Grid) : List (List Nat) := if T1 g = g.let_ then [g.let_] else g.let_ :: subl (T1 g)
theorem Grid.Der.whole (e : T1 g = g.let_) {l s : List Nat} (h : g.Der l s) : l = g.let_ := by
  induction h with
  | leaf => rfl
  | node ps hl hd ih =>
    have e2 : ps.map (·.1) = List.replicate g.w g.let_ := by
      rw [← hl]
      refine List.ext_getElem? fun j => ?_
      rw [List.getElem?_map, List.getElem?_replicate]
      by_cases hj : j < ps.length
      · rw [if_pos hj, List.getElem?_eq_getElem hj]
        exact congrArg some (ih ps[j] (List.getElem_mem hj))
      · rw [if_neg hj, List.getElem?_eq_none (Nat.le_of_not_lt hj)]
        rfl
    rw [e2]
    exact e
theorem Grid.Der.inU {l s : List Nat} (h : g.Der l s) : l ∈ U g := by
  unfold U
  by_cases e : T1 g = g.let_
  · rw [if_pos e, h.whole e]
    exact List.mem_cons_self
  · rw [if_neg e]
    cases h with
    | leaf => exact List.mem_cons_self
    | node ps hl hd =>
      refine List.mem_cons_of_mem _ ?_
      have e2 : g.F (ps.map (·.1)) = (T1 g).filter (fun a => @decide (g.Can (ps.map (·.1)) a) (Classical.propDecidable _)) := by
        unfold T1 Grid.F
        rw [List.filter_filter]
        refine List.filter_congr fun a _ => ?_
        by_cases c : g.Can (ps.map (·.1)) a
        · have c2 := Can_T1 hl hd c
          simp [c, c2]
        · simp [c]
      rw [e2]
      exact filter_subl _ _
theorem U_len (ok : g.Ok) : (U g).length ≤ 9 := by
  unfold U
  by_cases e : T1 g = g.let_
  · rw [if_pos e, List.length_singleton]
    omega
  · rw [if_neg e, List.length_cons, subl_len]
    have sb : (T1 g).Sublist g.let_ := List.filter_sublist
    have h1 : (T1 g).length ≤ g.let_.length := sb.length_le
    have h2 : (T1 g).length ≠ g.let_.length := fun z => e (sb.eq_of_length z)
    have h3 := ok.few
    have h4 : (T1 g).length ≤ 3 := by omega
    have h5 : 2 ^ (T1 g).length ≤ 2 ^ 3 := Nat.pow_le_pow_right (by decide) h4
    omega
/-! ### shapes by their order -/
def less (s t : List Nat) : Prop := s.length < t.length ∨ (s.length = t.length ∧ s < t)
instance (s t : List Nat) : Decidable (less s t) := inferInstanceAs (Decidable (_ ∨ _))
theorem less_irr (s : List Nat) : ¬ less s s := by
  rintro (h | ⟨_, h⟩)
  · omega
  · exact List.lt_irrefl _ h
theorem less_tri (s t : List Nat) : less s t ∨ s = t ∨ less t s := by
  unfold less
  by_cases e : s = t
  · exact .inr (.inl e)
  · rcases Nat.lt_trichotomy s.length t.length with h | h | h
    · exact .inl (.inl h)
    · rcases lex_tri s t e with h2 | h2
      · exact .inl (.inr ⟨h, h2⟩)
      · exact .inr (.inr (.inr ⟨h.symm, h2⟩))
    · exact .inr (.inr (.inl h))
theorem lt_app : ∀ {a b c d : List Nat}, a < b → a.length = b.length → a ++ c < b ++ d
  | [], [], _, _, h, _ => absurd h (List.lt_irrefl [])
  | [], _ :: _, _, _, _, h => by simp at h
  | _ :: _, [], _, _, _, h => by simp at h
  | x :: a, y :: b, c, d, h, hl => by
    rw [List.cons_append, List.cons_append, List.cons_lt_cons_iff]
    rw [List.cons_lt_cons_iff] at h
    rcases h with h | ⟨e, h⟩
    · exact .inl h
    · exact .inr ⟨e, lt_app h (by simpa using hl)⟩
theorem less_in {a s t b : List Nat} (h : less s t) : less (a ++ (s ++ b)) (a ++ (t ++ b)) := by
  unfold less
  simp only [List.length_append]
  rcases h with h | ⟨h1, h2⟩
  · exact .inl (by omega)
  · exact .inr ⟨by omega, List.append_left_lt (lt_app h2 h1)⟩
def bit (c : Nat) : Nat := if c = 43 then 0 else 1
def enc : Nat → List Nat → Nat
  | v, [] => v
  | v, c :: r => enc (2 * v + bit c) r
theorem bit_le (c : Nat) : bit c ≤ 1 := by
  unfold bit
  split <;> omega
theorem enc_lo : ∀ (s : List Nat) (v : Nat), v * 2 ^ s.length ≤ enc v s
  | [], v => by simp [enc]
  | c :: r, v => by
    have h := enc_lo r (2 * v + bit c)
    show v * 2 ^ (r.length + 1) ≤ enc (2 * v + bit c) r
    refine Nat.le_trans ?_ h
    rw [Nat.pow_succ, Nat.mul_comm (2 ^ r.length) 2, ← Nat.mul_assoc]
    exact Nat.mul_le_mul_right _ (by omega)
theorem enc_hi : ∀ (s : List Nat) (v : Nat), enc v s < (v + 1) * 2 ^ s.length
  | [], v => by simp [enc]
  | c :: r, v => by
    have h := enc_hi r (2 * v + bit c)
    have hb := bit_le c
    show enc (2 * v + bit c) r < (v + 1) * 2 ^ (r.length + 1)
    refine Nat.lt_of_lt_of_le h ?_
    rw [Nat.pow_succ, Nat.mul_comm (2 ^ r.length) 2, ← Nat.mul_assoc]
    exact Nat.mul_le_mul_right _ (by omega)
def Sgn (s : List Nat) : Prop := ∀ c ∈ s, c = 43 ∨ c = 46
theorem enc_lt : ∀ {s t : List Nat} (v : Nat), Sgn s → Sgn t → s.length = t.length → s < t → enc v s < enc v t
  | [], [], _, _, _, _, h => absurd h (List.lt_irrefl [])
  | [], _ :: _, _, _, _, hl, _ => by simp at hl
  | _ :: _, [], _, _, _, hl, _ => by simp at hl
  | x :: a, y :: b, v, hs, ht, hl, h => by
    rw [List.cons_lt_cons_iff] at h
    have hl' : a.length = b.length := by simpa using hl
    show enc (2 * v + bit x) a < enc (2 * v + bit y) b
    rcases h with h | ⟨e, h⟩
    · have ex : x = 43 := by
        rcases hs x List.mem_cons_self with e | e
        · exact e
        · rcases ht y List.mem_cons_self with e2 | e2 <;> omega
      have ey : y = 46 := by
        rcases ht y List.mem_cons_self with e | e
        · omega
        · exact e
      have h1 := enc_hi a (2 * v + bit x)
      have h2 := enc_lo b (2 * v + bit y)
      have b1 : bit x = 0 := by rw [ex]; rfl
      have b2 : bit y = 1 := by rw [ey]; rfl
      rw [b1] at h1
      rw [b2, ← hl'] at h2
      rw [b1, b2]
      exact Nat.lt_of_lt_of_le h1 h2
    · rw [e]
      exact enc_lt _ (fun c hc => hs c (List.mem_cons_of_mem _ hc)) (fun c hc => ht c (List.mem_cons_of_mem _ hc)) hl' h
theorem less_enc {s t : List Nat} (hs : Sgn s) (ht : Sgn t) (h : less s t) : enc 1 s < enc 1 t := by
  rcases h with h | ⟨h1, h2⟩
  · have a := enc_hi s 1
    have b := enc_lo t 1
    have c : 2 ^ (s.length + 1) ≤ 2 ^ t.length := Nat.pow_le_pow_right (by decide) h
    rw [Nat.pow_succ] at c
    omega
  · exact enc_lt 1 hs ht h1 h2
theorem Grid.Der.sgn {l s : List Nat} (h : g.Der l s) : Sgn s := by
  induction h with
  | leaf =>
    intro c hc
    rcases List.mem_cons.mp hc with e | e
    · exact .inr e
    · cases e
  | node ps _ _ ih =>
    intro c hc
    rcases List.mem_cons.mp hc with e | e
    · exact .inl e
    · obtain ⟨s, hs, hcs⟩ := List.mem_flatten.mp e
      obtain ⟨p, hp, rfl⟩ := List.mem_map.mp hs
      exact ih p hp c hcs
theorem Grid.Der.ne {l s : List Nat} (h : g.Der l s) : 1 ≤ s.length := by
  cases h with
  | leaf => exact Nat.le_refl _
  | node ps _ _ =>
    rw [List.length_cons]
    omega
/-! ### the least shape of a lot -/
def Mn (g : Grid) (l m : List Nat) : Prop := g.Der l m ∧ ∀ s, g.Der l s → ¬ less s m
theorem Mn.uniq {l m m' : List Nat} (h : Mn g l m) (h' : Mn g l m') : m = m' := by
  rcases less_tri m m' with e | e | e
  · exact absurd e (h'.2 m h.1)
  · exact e
  · exact absurd e (h.2 m' h'.1)
theorem Mn.ex {l s : List Nat} (h : g.Der l s) : ∃ m, Mn g l m := by
  have all : ∀ (n : Nat) (s : List Nat), g.Der l s → enc 1 s ≤ n → ∃ m, Mn g l m := by
    intro n
    induction n with
    | zero =>
      intro s h hn
      refine ⟨s, h, fun t ht hl => ?_⟩
      have := less_enc ht.sgn h.sgn hl
      omega
    | succ n ih =>
      intro s h hn
      by_cases e : ∃ t, g.Der l t ∧ less t s
      · obtain ⟨t, ht, hl⟩ := e
        have := less_enc ht.sgn h.sgn hl
        exact ih t ht (by omega)
      · exact ⟨s, h, fun t ht hl => e ⟨t, ht, hl⟩⟩
  exact all _ s h (Nat.le_refl _)
theorem flat_len : ∀ {l : List (List Nat)}, (∀ s ∈ l, 1 ≤ s.length) → l.length ≤ l.flatten.length
  | [], _ => Nat.le_refl _
  | s :: r, h => by
    have h1 := h s List.mem_cons_self
    have h2 := flat_len (l := r) fun t ht => h t (List.mem_cons_of_mem _ ht)
    rw [List.flatten_cons, List.length_append, List.length_cons]
    omega
theorem node_len {ps : List (List Nat × List Nat)} (hd : ∀ p ∈ ps, g.Der p.1 p.2) : ps.length + 1 ≤ (43 :: (ps.map (·.2)).flatten).length := by
  have h := flat_len (l := ps.map (·.2)) fun s hs => by
    obtain ⟨p, hp, rfl⟩ := List.mem_map.mp hs
    exact (hd p hp).ne
  rw [List.length_map] at h
  rw [List.length_cons]
  omega
theorem one_leaf {l s : List Nat} (hw : 1 ≤ g.w) (h : g.Der l s) (h1 : s.length ≤ 1) : l = g.let_ ∧ s = [46] := by
  cases h with
  | leaf => exact ⟨rfl, rfl⟩
  | node ps hl hd =>
    have := node_len hd
    omega
theorem Mn.leaf (hw : 1 ≤ g.w) : Mn g g.let_ [46] := by
  refine ⟨.leaf, fun s h hl => ?_⟩
  have h1 : s.length ≤ 1 := by
    rcases hl with hl | ⟨hl, _⟩
    · simp only [List.length_singleton] at hl
      omega
    · simp only [List.length_singleton] at hl
      omega
  rw [(one_leaf hw h h1).2] at hl
  exact less_irr _ hl
theorem Mn.kids {ps : List (List Nat × List Nat)} (hl : ps.length = g.w) (hd : ∀ p ∈ ps, g.Der p.1 p.2) (h : ∀ s, g.Der (g.F (ps.map (·.1))) s → ¬ less s (43 :: (ps.map (·.2)).flatten)) :
    ∀ p ∈ ps, Mn g p.1 p.2 := by
  intro p hp
  refine ⟨hd p hp, fun s hs hless => ?_⟩
  obtain ⟨A, B, e⟩ := List.append_of_mem hp
  have hd' : g.Der (g.F ((A ++ (p.1, s) :: B).map (·.1))) (43 :: ((A ++ (p.1, s) :: B).map (·.2)).flatten) := by
    refine .node _ ?_ fun q hq => ?_
    · rw [← hl, e]
      simp
    · rcases List.mem_append.mp hq with z | z
      · exact hd q (by rw [e]; exact List.mem_append_left _ z)
      · rcases List.mem_cons.mp z with z | z
        · rw [z]
          exact hs
        · exact hd q (by rw [e]; exact List.mem_append_right _ (List.mem_cons_of_mem _ z))
  have e1 : (A ++ (p.1, s) :: B).map (·.1) = ps.map (·.1) := by
    rw [e]
    simp
  rw [e1] at hd'
  refine h _ hd' ?_
  rw [e]
  simp only [List.map_append, List.map_cons, List.flatten_append, List.flatten_cons]
  have q := less_in (a := 43 :: (A.map (·.2)).flatten) (b := (B.map (·.2)).flatten) hless
  simpa using q
/-! ### a lap -/
abbrev KV := List (List Nat × List Nat)
def shOf (kv : KV) (ls : List (List Nat)) : List Nat := 43 :: (ls.map fun l => (aget kv l).getD []).flatten
noncomputable def step (g : Grid) (st : KV × Bool) (ls : List (List Nat)) : KV × Bool :=
  match aget st.1 (g.F ls) with
  | none => (aput st.1 (g.F ls) (shOf st.1 ls), true)
  | some t => if less (shOf st.1 ls) t then (aput st.1 (g.F ls) (shOf st.1 ls), true) else st
noncomputable def lap (g : Grid) (st : KV × Bool) (T : List (List (List Nat))) : KV × Bool := T.foldl (step g) st
/-- the lengths' bounds -/
def bn : Nat → Nat
  | 0 => 1
  | i + 1 => 3 * bn i + 1
theorem bn_mono {i j : Nat} (h : i ≤ j) : bn i ≤ bn j := by
  induction h with
  | refl => exact Nat.le_refl _
  | step _ ih =>
    refine Nat.le_trans ih ?_
    show bn _ ≤ 3 * bn _ + 1
    omega
def Bd : Nat → KV → Prop
  | _, [] => True
  | i, p :: r => p.2.length ≤ bn i ∧ Bd (i + 1) r
theorem Bd.old {k t s : List Nat} : ∀ {kv : KV} {i : Nat}, Bd i kv → aget kv k = some t → s.length ≤ t.length → Bd i (aput kv k s)
  | [], _, _, h, _ => nomatch h
  | p :: r, i, hb, h, hl => by
    unfold aget at h
    unfold aput
    split at h
    · rename_i e
      cases h
      rw [if_pos e]
      exact ⟨Nat.le_trans hl hb.1, hb.2⟩
    · rename_i e
      rw [if_neg e]
      exact ⟨hb.1, Bd.old hb.2 h hl⟩
theorem Bd.snoc {p : List Nat × List Nat} : ∀ {kv : KV} {i : Nat}, Bd i kv → p.2.length ≤ bn (i + kv.length) → Bd i (kv ++ [p])
  | [], _, _, h => ⟨h, trivial⟩
  | q :: r, i, hb, h => ⟨hb.1, Bd.snoc hb.2 (by rw [List.length_cons] at h; rw [show i + 1 + r.length = i + (r.length + 1) by omega]; exact h)⟩
theorem Bd.mem {p : List Nat × List Nat} : ∀ {kv : KV} {i : Nat}, Bd i kv → p ∈ kv → p.2.length ≤ bn (i + kv.length - 1)
  | [], _, _, h => nomatch h
  | q :: r, i, hb, h => by
    rcases List.mem_cons.mp h with e | h
    · rw [e]
      exact Nat.le_trans hb.1 (bn_mono (by rw [List.length_cons]; omega))
    · have h2 := Bd.mem hb.2 h
      rw [List.length_cons]
      rw [show i + (r.length + 1) - 1 = i + 1 + r.length - 1 by omega]
      exact h2
def Stl (g : Grid) (kv : KV) (l : List Nat) : Prop := ∃ s, aget kv l = some s ∧ Mn g l s
structure Inv (g : Grid) (kv : KV) : Prop where
  sound : ∀ l s, aget kv l = some s → g.Der l s
  nd : (kv.map (·.1)).Nodup
  whole : Stl g kv g.let_
  bd : Bd 0 kv
/-- lots that are known, as many as the children of a place -/
def Tu (g : Grid) (kv : KV) (ls : List (List Nat)) : Prop := ls.length = g.w ∧ ∀ l ∈ ls, ∃ s, aget kv l = some s
theorem Tu.der {kv : KV} (I : Inv g kv) {ls : List (List Nat)} (h : Tu g kv ls) : g.Der (g.F ls) (shOf kv ls) := by
  have hd : ∀ p ∈ ls.map (fun l => (l, (aget kv l).getD [])), g.Der p.1 p.2 := by
    intro p hp
    obtain ⟨l, hl, rfl⟩ := List.mem_map.mp hp
    obtain ⟨s, e⟩ := h.2 l hl
    show g.Der l ((aget kv l).getD [])
    rw [e]
    exact I.sound l s e
  have q := Grid.Der.node (g := g) (ls.map fun l => (l, (aget kv l).getD [])) (by rw [List.length_map]; exact h.1) hd
  rw [List.map_map, List.map_map] at q
  have e1 : ls.map ((fun p : List Nat × List Nat => p.1) ∘ fun l => (l, (aget kv l).getD [])) = ls := by
    conv => rhs; rw [← List.map_id ls]
    rfl
  rw [e1] at q
  exact q
theorem flat_le {b : Nat} : ∀ {l : List (List Nat)}, (∀ s ∈ l, s.length ≤ b) → l.flatten.length ≤ l.length * b
  | [], _ => by simp
  | s :: r, h => by
    have h1 := h s List.mem_cons_self
    have h2 := flat_le (l := r) fun t ht => h t (List.mem_cons_of_mem _ ht)
    rw [List.flatten_cons, List.length_append, List.length_cons, Nat.succ_mul]
    omega
theorem shOf_len {kv : KV} {b : Nat} {ls : List (List Nat)} (h : ∀ l ∈ ls, ((aget kv l).getD []).length ≤ b) : (shOf kv ls).length ≤ ls.length * b + 1 := by
  unfold shOf
  rw [List.length_cons]
  have := flat_le (b := b) (l := ls.map fun l => (aget kv l).getD []) fun s hs => by
    obtain ⟨l, hl, rfl⟩ := List.mem_map.mp hs
    exact h l hl
  rw [List.length_map] at this
  omega
theorem Tu.len (ok : g.Ok) {kv : KV} (I : Inv g kv) {ls : List (List Nat)} (h : Tu g kv ls) : (shOf kv ls).length ≤ bn kv.length := by
  have hpos : 1 ≤ kv.length := by
    obtain ⟨s, e, _⟩ := I.whole
    cases kv with
    | nil => cases e
    | cons => rw [List.length_cons]; omega
  have h1 := shOf_len (kv := kv) (b := bn (kv.length - 1)) (ls := ls) fun l hl => by
    obtain ⟨s, e⟩ := h.2 l hl
    rw [e]
    have := I.bd.mem (aget_mem e)
    rw [show 0 + kv.length - 1 = kv.length - 1 by omega] at this
    exact this
  rw [h.1] at h1
  have e : bn kv.length = 3 * bn (kv.length - 1) + 1 := by
    obtain ⟨n, hn⟩ : ∃ n, kv.length = n + 1 := ⟨kv.length - 1, by omega⟩
    rw [hn]
    rfl
  rw [e]
  have hw := ok.w23
  have : g.w * bn (kv.length - 1) ≤ 3 * bn (kv.length - 1) := Nat.mul_le_mul_right _ (by omega)
  omega
/-- what a step does to the dict -/
theorem step_cases (st : KV × Bool) (ls : List (List Nat)) :
    (step g st ls = st ∧ ∃ t, aget st.1 (g.F ls) = some t ∧ ¬ less (shOf st.1 ls) t) ∨
    (step g st ls = (aput st.1 (g.F ls) (shOf st.1 ls), true) ∧ (aget st.1 (g.F ls) = none ∨ ∃ t, aget st.1 (g.F ls) = some t ∧ less (shOf st.1 ls) t)) := by
  unfold step
  cases e : aget st.1 (g.F ls) with
  | none => exact .inr ⟨rfl, .inl rfl⟩
  | some t =>
    dsimp only
    by_cases h : less (shOf st.1 ls) t
    · rw [if_pos h]
      exact .inr ⟨rfl, .inr ⟨t, rfl, h⟩⟩
    · rw [if_neg h]
      exact .inl ⟨rfl, t, rfl, h⟩
theorem step_at {st : KV × Bool} (I : Inv g st.1) {ls : List (List Nat)} (h : Tu g st.1 ls) {l m : List Nat} (e : aget st.1 l = some m) (hm : Mn g l m) : aget (step g st ls).1 l = some m := by
  rcases step_cases (g := g) st ls with ⟨e1, _⟩ | ⟨e1, e2⟩
  · rw [e1]
    exact e
  · rw [e1]
    show aget (aput st.1 (g.F ls) (shOf st.1 ls)) l = some m
    rw [aget_aput]
    by_cases ef : g.F ls = l
    · exfalso
      rcases e2 with e2 | ⟨t, e2, hl⟩
      · rw [ef, e] at e2
        cases e2
      · rw [ef, e] at e2
        cases e2
        have q := h.der I
        rw [ef] at q
        exact hm.2 _ q hl
    · rw [if_neg ef]
      exact e
theorem step_key {st : KV × Bool} {ls : List (List Nat)} {l s : List Nat} (e : aget st.1 l = some s) : ∃ s', aget (step g st ls).1 l = some s' := by
  rcases step_cases (g := g) st ls with ⟨e1, _⟩ | ⟨e1, _⟩
  · rw [e1]
    exact ⟨s, e⟩
  · rw [e1]
    show ∃ s', aget (aput st.1 (g.F ls) (shOf st.1 ls)) l = some s'
    rw [aget_aput]
    split
    · exact ⟨_, rfl⟩
    · exact ⟨s, e⟩
theorem step_inv (ok : g.Ok) {st : KV × Bool} (I : Inv g st.1) {ls : List (List Nat)} (h : Tu g st.1 ls) : Inv g (step g st ls).1 := by
  have hd := h.der I
  have hlen := h.len ok I
  rcases step_cases (g := g) st ls with ⟨e1, _⟩ | ⟨e1, e2⟩
  · rw [e1]
    exact I
  · obtain ⟨s, es, ms⟩ := I.whole
    have hw : Stl g (step g st ls).1 g.let_ := ⟨s, step_at I h es ms, ms⟩
    rw [e1] at hw ⊢
    refine ⟨fun l s e => ?_, ?_, hw, ?_⟩
    · have e' : aget (aput st.1 (g.F ls) (shOf st.1 ls)) l = some s := e
      rw [aget_aput] at e'
      split at e'
      · rename_i ef
        cases e'
        rw [← ef]
        exact hd
      · exact I.sound l s e'
    · show ((aput st.1 (g.F ls) (shOf st.1 ls)).map (·.1)).Nodup
      rcases e2 with e2 | ⟨t, e2, _⟩
      · rw [aput_new _ e2, List.map_append, List.nodup_append]
        refine ⟨I.nd, by simp, fun a ha b hb e => ?_⟩
        rw [List.map_cons, List.map_nil, List.mem_singleton] at hb
        have hb2 : b = g.F ls := hb
        rw [e, hb2] at ha
        exact aget_none e2 ha
      · rw [aput_keys _ e2]
        exact I.nd
    · show Bd 0 (aput st.1 (g.F ls) (shOf st.1 ls))
      rcases e2 with e2 | ⟨t, e2, hl⟩
      · rw [aput_new _ e2]
        refine I.bd.snoc ?_
        rw [Nat.zero_add]
        exact hlen
      · refine I.bd.old e2 ?_
        rcases hl with hl | ⟨hl, _⟩ <;> omega
theorem step_hit {st : KV × Bool} (I : Inv g st.1) {ls : List (List Nat)} (h : Tu g st.1 ls) (hm : Mn g (g.F ls) (shOf st.1 ls)) : aget (step g st ls).1 (g.F ls) = some (shOf st.1 ls) := by
  rcases step_cases (g := g) st ls with ⟨e1, t, e2, hl⟩ | ⟨e1, _⟩
  · rw [e1, e2]
    rcases less_tri (shOf st.1 ls) t with z | z | z
    · exact absurd z hl
    · rw [z]
    · exact absurd z (hm.2 t (I.sound _ _ e2))
  · rw [e1]
    show aget (aput st.1 (g.F ls) (shOf st.1 ls)) (g.F ls) = _
    rw [aget_aput, if_pos rfl]
/-- over a whole lap -/
theorem lap_inv (ok : g.Ok) : ∀ {T : List (List (List Nat))} {st : KV × Bool}, Inv g st.1 → (∀ ls ∈ T, Tu g st.1 ls) → Inv g (lap g st T).1
  | [], _, I, _ => I
  | ls :: T, st, I, h => by
    have h0 := h ls List.mem_cons_self
    refine lap_inv ok (T := T) (st := step g st ls) (step_inv ok I h0) fun ms hm => ?_
    have h1 := h ms (List.mem_cons_of_mem _ hm)
    exact ⟨h1.1, fun l hl => let ⟨s, e⟩ := h1.2 l hl; step_key e⟩
theorem Tu.step {st : KV × Bool} {ls ms : List (List Nat)} (h : Tu g st.1 ms) : Tu g (step g st ls).1 ms := ⟨h.1, fun l hl => let ⟨_, e⟩ := h.2 l hl; step_key e⟩
theorem lap_at (ok : g.Ok) {l m : List Nat} (hm : Mn g l m) : ∀ {T : List (List (List Nat))} {st : KV × Bool}, Inv g st.1 → (∀ ls ∈ T, Tu g st.1 ls) → aget st.1 l = some m → aget (lap g st T).1 l = some m
  | [], _, _, _, e => e
  | ls :: T, st, I, h, e => by
    have h0 := h ls List.mem_cons_self
    exact lap_at ok hm (T := T) (st := K27.step g st ls) (step_inv ok I h0) (fun ms hms => (h ms (List.mem_cons_of_mem _ hms)).step) (step_at I h0 e hm)
theorem lap_hit (ok : g.Ok) {ls : List (List Nat)} {σ : List Nat → List Nat} (hσ : ∀ l ∈ ls, Mn g l (σ l)) (hm : Mn g (g.F ls) (43 :: (ls.map σ).flatten)) :
    ∀ {T : List (List (List Nat))} {st : KV × Bool}, Inv g st.1 → (∀ ls ∈ T, Tu g st.1 ls) → (∀ l ∈ ls, aget st.1 l = some (σ l)) → ls ∈ T → aget (lap g st T).1 (g.F ls) = some (43 :: (ls.map σ).flatten)
  | [], _, _, _, _, hin => nomatch hin
  | ms :: T, st, I, h, e, hin => by
    have h0 := h ms List.mem_cons_self
    have h2 : ∀ ls ∈ T, Tu g (K27.step g st ms).1 ls := fun ks hks => (h ks (List.mem_cons_of_mem _ hks)).step
    by_cases z : ls = ms
    · subst z
      have es : shOf st.1 ls = 43 :: (ls.map σ).flatten := by
        unfold shOf
        congr 2
        refine List.map_congr_left fun l hl => ?_
        rw [e l hl]
        rfl
      refine lap_at ok hm (T := T) (step_inv ok I h0) h2 ?_
      rw [← es]
      rw [← es] at hm
      exact step_hit I h0 hm
    · exact lap_hit ok hσ hm (T := T) (step_inv ok I h0) h2 (fun l hl => step_at I h0 (e l hl) (hσ l hl)) ((List.mem_cons.mp hin).resolve_left z)
/-- all tuples of known lots -/
structure All (g : Grid) (kv : KV) (T : List (List (List Nat))) : Prop where
  tu : ∀ ls ∈ T, Tu g kv ls
  all : ∀ ls, Tu g kv ls → ls ∈ T
theorem lap_more (ok : g.Ok) {kv : KV} {b : Bool} {T : List (List (List Nat))} (I : Inv g kv) (A : All g kv T) :
    ∀ (n : Nat) (l m : List Nat), Mn g l m → ¬ Stl g kv l → m.length ≤ n → ∃ l' m', Mn g l' m' ∧ ¬ Stl g kv l' ∧ Stl g (lap g (kv, b) T).1 l' := by
  intro n
  induction n with
  | zero =>
    intro l m hm _ hn
    have := hm.1.ne
    omega
  | succ n ih =>
    intro l m hm hs hn
    have hd := hm.1
    cases hd with
    | leaf => exact absurd I.whole hs
    | node ps hl hd =>
      have hk := Mn.kids hl hd hm.2
      by_cases hall : ∃ p ∈ ps, ¬ Stl g kv p.1
      · obtain ⟨p, hp, hps⟩ := hall
        refine ih p.1 p.2 (hk p hp) hps ?_
        obtain ⟨A, B, e⟩ := List.append_of_mem hp
        rw [e] at hn
        simp only [List.map_append, List.map_cons, List.flatten_append, List.flatten_cons, List.length_cons, List.length_append] at hn
        omega
      · have hall' : ∀ p ∈ ps, aget kv p.1 = some p.2 := fun p hp => by
          have q : Stl g kv p.1 := Classical.byContradiction fun z => hall ⟨p, hp, z⟩
          obtain ⟨s, e, ms⟩ := q
          rw [e, ms.uniq (hk p hp)]
        have e1 : ps.map (·.2) = (ps.map (·.1)).map fun l => (aget kv l).getD [] := by
          rw [List.map_map]
          refine List.map_congr_left fun p hp => ?_
          show p.2 = (aget kv p.1).getD []
          rw [hall' p hp]
          rfl
        have hin : Tu g kv (ps.map (·.1)) := ⟨by rw [List.length_map]; exact hl, fun l hl => by
          obtain ⟨p, hp, rfl⟩ := List.mem_map.mp hl
          exact ⟨p.2, hall' p hp⟩⟩
        refine ⟨_, _, hm, hs, _, ?_, hm⟩
        rw [e1]
        rw [e1] at hm
        refine lap_hit ok (st := (kv, b)) (fun l hl => ?_) hm I A.tu (fun l hl => ?_) (A.all _ hin)
        · obtain ⟨p, hp, rfl⟩ := List.mem_map.mp hl
          rw [hall' p hp]
          exact hk p hp
        · obtain ⟨p, hp, rfl⟩ := List.mem_map.mp hl
          show aget kv p.1 = _
          rw [hall' p hp]
          rfl
/-- how many lots that there are do not have their least shape yet -/
noncomputable def mu (g : Grid) (kv : KV) : Nat := ((U g).filter fun l => @decide ((∃ s, g.Der l s) ∧ ¬ Stl g kv l) (Classical.propDecidable _)).length
theorem filter_lt {p q : List Nat → Bool} : ∀ {l : List (List Nat)}, (∀ x ∈ l, p x = true → q x = true) → (∃ x ∈ l, q x = true ∧ p x = false) → (l.filter p).length < (l.filter q).length
  | [], _, h => by
    obtain ⟨x, hx, _⟩ := h
    cases hx
  | a :: r, h, hx => by
    have hle : ∀ {l : List (List Nat)}, (∀ x ∈ l, p x = true → q x = true) → (l.filter p).length ≤ (l.filter q).length := by
      intro l
      induction l with
      | nil => intro _; exact Nat.le_refl _
      | cons b t ih =>
        intro hb
        have i2 := ih fun x hx => hb x (List.mem_cons_of_mem _ hx)
        have hbb := hb b List.mem_cons_self
        rw [List.filter_cons, List.filter_cons]
        cases ep : p b with
        | true =>
          rw [hbb ep]
          simp only [if_true, List.length_cons]
          omega
        | false =>
          cases eq : q b with
          | true =>
            simp only [if_true, List.length_cons]
            simp
            omega
          | false => simpa using i2
    obtain ⟨x, hx, hq, hp⟩ := hx
    have hr : ∀ x ∈ r, p x = true → q x = true := fun x hx => h x (List.mem_cons_of_mem _ hx)
    rw [List.filter_cons, List.filter_cons]
    rcases List.mem_cons.mp hx with e | hx
    · subst e
      rw [hp, hq]
      have := hle hr
      simp only [if_true, List.length_cons]
      simp
      omega
    · have i2 := filter_lt hr ⟨x, hx, hq, hp⟩
      cases ep : p a with
      | true =>
        rw [h a List.mem_cons_self ep]
        simp only [if_true, List.length_cons]
        omega
      | false =>
        cases eq : q a with
        | true =>
          simp only [if_true, List.length_cons]
          simp
          omega
        | false => simpa using i2
theorem mu_zero {kv : KV} (h : mu g kv = 0) {l s : List Nat} (hd : g.Der l s) : Stl g kv l := by
  unfold mu at h
  have h2 := List.eq_nil_of_length_eq_zero h
  rw [List.filter_eq_nil_iff] at h2
  have h3 := h2 l hd.inU
  rw [@decide_eq_true_eq _ (Classical.propDecidable _)] at h3
  exact Classical.byContradiction fun z => h3 ⟨⟨s, hd⟩, z⟩
theorem mu_pos {kv : KV} (h : mu g kv ≠ 0) : ∃ l m, Mn g l m ∧ ¬ Stl g kv l := by
  unfold mu at h
  cases e : (U g).filter fun l => @decide ((∃ s, g.Der l s) ∧ ¬ Stl g kv l) (Classical.propDecidable _) with
  | nil =>
    rw [e] at h
    exact absurd rfl h
  | cons l r =>
    have hl : l ∈ (U g).filter fun l => @decide ((∃ s, g.Der l s) ∧ ¬ Stl g kv l) (Classical.propDecidable _) := by
      rw [e]
      exact List.mem_cons_self
    have h3 := (List.mem_filter.mp hl).2
    rw [@decide_eq_true_eq _ (Classical.propDecidable _)] at h3
    obtain ⟨⟨s, hd⟩, hs⟩ := h3
    obtain ⟨m, hm⟩ := Mn.ex hd
    exact ⟨l, m, hm, hs⟩
theorem mu_le (ok : g.Ok) (kv : KV) : mu g kv ≤ 9 := Nat.le_trans (List.length_filter_le _ _) (U_len ok)
theorem lap_mu (ok : g.Ok) {kv : KV} {b : Bool} {T : List (List (List Nat))} (I : Inv g kv) (A : All g kv T) (h : mu g kv ≠ 0) : mu g (lap g (kv, b) T).1 < mu g kv := by
  obtain ⟨l, m, hm, hs⟩ := mu_pos h
  obtain ⟨l', m', hm', hs', ht'⟩ := lap_more ok (b := b) I A _ l m hm hs (Nat.le_refl _)
  unfold mu
  refine filter_lt (fun x _ hx => ?_) ⟨l', hm'.1.inU, ?_, ?_⟩
  · rw [@decide_eq_true_eq _ (Classical.propDecidable _)] at hx ⊢
    refine ⟨hx.1, fun z => hx.2 ?_⟩
    obtain ⟨s, e, ms⟩ := z
    exact ⟨s, lap_at ok ms (st := (kv, b)) I A.tu e, ms⟩
  · rw [@decide_eq_true_eq _ (Classical.propDecidable _)]
    exact ⟨⟨m', hm'.1⟩, hs'⟩
  · rw [@decide_eq_false_iff_not _ (Classical.propDecidable _)]
    exact fun z => z.2 ht'
theorem step_still {st : KV × Bool} (I : Inv g st.1) {ls : List (List Nat)} (h : Tu g st.1 ls) (h0 : mu g st.1 = 0) : step g st ls = st := by
  have hd := h.der I
  obtain ⟨m, e, hm⟩ := mu_zero h0 hd
  rcases step_cases (g := g) st ls with ⟨e1, _⟩ | ⟨_, e2⟩
  · exact e1
  · rcases e2 with e2 | ⟨t, e2, hl⟩
    · rw [e] at e2
      cases e2
    · rw [e] at e2
      cases e2
      exact absurd hl (hm.2 _ hd)
theorem lap_still : ∀ {T : List (List (List Nat))} {st : KV × Bool}, Inv g st.1 → (∀ ls ∈ T, Tu g st.1 ls) → mu g st.1 = 0 → lap g st T = st
  | [], _, _, _, _ => rfl
  | ls :: T, st, I, h, h0 => by
    show lap g (step g st ls) T = st
    rw [step_still I (h ls List.mem_cons_self) h0]
    exact lap_still I (fun ms hm => h ms (List.mem_cons_of_mem _ hm)) h0
theorem step_flag {st : KV × Bool} {ls : List (List Nat)} (h : (step g st ls).2 = false) : step g st ls = st := by
  rcases step_cases (g := g) st ls with ⟨e1, _⟩ | ⟨e1, _⟩
  · exact e1
  · rw [e1] at h
    cases h
theorem flag_up : ∀ {T : List (List (List Nat))} {st : KV × Bool}, st.2 = true → (lap g st T).2 = true
  | [], _, h => h
  | ls :: T, st, h => by
    refine flag_up (T := T) (st := step g st ls) ?_
    rcases step_cases (g := g) st ls with ⟨e1, _⟩ | ⟨e1, _⟩
    · rw [e1]
      exact h
    · rw [e1]
theorem lap_flag : ∀ {T : List (List (List Nat))} {st : KV × Bool}, (lap g st T).2 = false → lap g st T = st
  | [], _, _ => rfl
  | ls :: T, st, h => by
    have h1 : (step g st ls).2 = false := by
      cases e : (step g st ls).2 with
      | false => rfl
      | true =>
        have := flag_up (g := g) (T := T) e
        exact absurd (h.symm.trans this) (by decide)
    have h2 := step_flag h1
    show lap g (step g st ls) T = st
    rw [h2]
    refine lap_flag (T := T) ?_
    have h3 : (lap g (step g st ls) T).2 = false := h
    rw [h2] at h3
    exact h3
theorem lap_main (ok : g.Ok) {kv : KV} {T : List (List (List Nat))} (I : Inv g kv) (A : All g kv T) :
    Inv g (lap g (kv, false) T).1 ∧ ((lap g (kv, false) T).2 = true → mu g (lap g (kv, false) T).1 < mu g kv) ∧ ((lap g (kv, false) T).2 = false → lap g (kv, false) T = (kv, false) ∧ mu g kv = 0) := by
  refine ⟨lap_inv ok (st := (kv, false)) I A.tu, fun h => ?_, fun h => ?_⟩
  · refine lap_mu ok I A fun h0 => ?_
    have q := lap_still (st := (kv, false)) I A.tu h0
    rw [q] at h
    cases h
  · have e := lap_flag h
    refine ⟨e, Classical.byContradiction fun h0 => ?_⟩
    have q := lap_mu ok (b := false) I A h0
    rw [e] at q
    exact Nat.lt_irrefl _ q
theorem inv0 (ok : g.Ok) : Inv g [(g.let_, [46])] := by
  have hw : 1 ≤ g.w := by
    have := ok.w23
    omega
  refine ⟨fun l s e => ?_, by simp, ⟨[46], by unfold aget; exact if_pos rfl, Mn.leaf hw⟩, ⟨Nat.le_refl _, trivial⟩⟩
  have e2 := aget_mem e
  rw [List.mem_singleton] at e2
  cases e2
  exact .leaf
theorem final {kv : KV} (I : Inv g kv) (h0 : mu g kv = 0) (l s : List Nat) : aget kv l = some s ↔ Mn g l s := by
  constructor
  · intro e
    obtain ⟨m, em, hm⟩ := mu_zero h0 (I.sound l s e)
    rw [e] at em
    cases em
    exact hm
  · intro hm
    obtain ⟨m, em, hm'⟩ := mu_zero h0 hm.1
    rw [em, hm'.uniq hm]
theorem sub_len {α : Type} [DecidableEq α] : ∀ {l m : List α}, l.Nodup → (∀ x ∈ l, x ∈ m) → l.length ≤ m.length
  | [], _, _, _ => Nat.zero_le _
  | a :: r, m, hn, h => by
    obtain ⟨h1, h2⟩ := List.nodup_cons.mp hn
    have ha := h a List.mem_cons_self
    have h3 := sub_len (m := m.erase a) h2 fun x hx => by
      have hne : x ≠ a := fun e => h1 (e ▸ hx)
      exact (List.mem_erase_of_ne hne).mpr (h x (List.mem_cons_of_mem _ hx))
    rw [List.length_erase_of_mem ha] at h3
    have h4 : 1 ≤ m.length := List.length_pos_of_mem ha
    rw [List.length_cons]
    omega
theorem Inv.len (ok : g.Ok) {kv : KV} (I : Inv g kv) : kv.length ≤ 9 := by
  have h := sub_len I.nd (m := U g) fun l hl => by
    obtain ⟨s, e⟩ := aget_some hl
    exact (I.sound l s e).inU
  rw [List.length_map] at h
  exact Nat.le_trans h (U_len ok)
theorem Inv.short (ok : g.Ok) {kv : KV} (I : Inv g kv) {l s : List Nat} (e : aget kv l = some s) : s.length ≤ 9841 := by
  have h := I.bd.mem (aget_mem e)
  have h2 := I.len ok
  exact Nat.le_trans h (bn_mono (j := 8) (by omega))
theorem Der_let_len {l s : List Nat} (ok : g.Ok) (h : g.Der l s) : l.length ≤ 4 := Nat.le_trans (sub_len (asc_nodup linN h.asc) h.sub) ok.few
/-! ### a shape as a text: its places, their children, what can stand there -/
def desc (lo n : Nat) : List Nat := (List.range' lo n).reverse
theorem desc_add (lo a b : Nat) : desc lo (a + b) = desc (lo + a) b ++ desc lo a := by
  unfold desc
  rw [← List.range'_append, List.reverse_append, Nat.one_mul]
theorem desc_one (lo n : Nat) : desc lo (n + 1) = desc (lo + 1) n ++ [lo] := by
  rw [Nat.add_comm n 1, desc_add]
  rfl
theorem mem_desc {lo n j : Nat} : j ∈ desc lo n ↔ lo ≤ j ∧ j < lo + n := by
  unfold desc
  rw [List.mem_reverse, List.mem_range'_1]
def kstep (w : Nat) (txt : List Nat) (st : List (List Nat) × List Nat) (k : Nat) : List (List Nat) × List Nat :=
  if txt[k]? = some 43 then (st.1.set k (st.2.drop (st.2.length - w)).reverse, st.2.take (st.2.length - w) ++ [k]) else (st.1, st.2 ++ [k])
def krun (w : Nat) (txt : List Nat) (st : List (List Nat) × List Nat) (ks : List Nat) : List (List Nat) × List Nat := ks.foldl (kstep w txt) st
def kids (w : Nat) (txt : List Nat) : List (List Nat) := (krun w txt (List.replicate txt.length [], []) (desc 0 txt.length)).1
/-- at place k there stands a part, in the places from k to hi, whose top can have just l -/
inductive Sub (g : Grid) (K : List (List Nat)) (hi : Nat) : Nat → List Nat → Prop
  | leaf (k : Nat) : k < hi → K[k]? = some [] → Sub g K hi k g.let_
  | node (k : Nat) (ps : List (Nat × List Nat)) : k < hi → K[k]? = some (ps.map (·.1)) → ps ≠ [] → (∀ p ∈ ps, k < p.1) → (∀ p ∈ ps, Sub g K hi p.1 p.2) → Sub g K hi k (g.F (ps.map (·.2)))
theorem Sub.lt {K : List (List Nat)} {hi k : Nat} {l : List Nat} (h : Sub g K hi k l) : k < hi := by
  cases h with
  | leaf _ h _ => exact h
  | node _ _ h _ _ _ _ => exact h
theorem Sub.stay {K K' : List (List Nat)} {hi hi' k : Nat} {l : List Nat} (h : Sub g K hi k l) (hh : hi ≤ hi') (e : ∀ j, k ≤ j → j < hi → K'[j]? = K[j]?) : Sub g K' hi' k l := by
  induction h with
  | leaf k hk ek => exact .leaf k (Nat.lt_of_lt_of_le hk hh) (by rw [e k (Nat.le_refl _) hk]; exact ek)
  | node k ps hk ek hne hlt _ ih =>
    exact .node k ps (Nat.lt_of_lt_of_le hk hh) (by rw [e k (Nat.le_refl _) hk]; exact ek) hne hlt fun p hp' => ih p hp' fun j h1 h2 => e j (Nat.le_trans (Nat.le_of_lt (hlt p hp')) h1) h2
/-- what a run over the places of s, at lo, does -/
structure KRan (g : Grid) (st st' : List (List Nat) × List Nat) (lo n : Nat) (tps : List (Nat × List Nat)) : Prop where
  len : st'.1.length = st.1.length
  out : ∀ j, j < lo ∨ lo + n ≤ j → st'.1[j]? = st.1[j]?
  tops : st'.2 = st.2 ++ (tps.map (·.1)).reverse
  sub : ∀ p ∈ tps, lo ≤ p.1 ∧ Sub g st'.1 (lo + n) p.1 p.2
theorem krun_append (w : Nat) (txt : List Nat) (st : List (List Nat) × List Nat) (a b : List Nat) : krun w txt st (a ++ b) = krun w txt (krun w txt st a) b := List.foldl_append
theorem krun_forest {txt : List Nat} (hi : ∀ (p : List Nat × List Nat), True) :
    ∀ (ps : List (List Nat × List Nat)), (∀ p ∈ ps, ∀ (pre post : List Nat) (st : List (List Nat) × List Nat), txt = pre ++ (p.2 ++ post) → st.1.length = txt.length → (∀ j, j < pre.length + p.2.length → st.1[j]? = some []) →
      KRan g st (krun g.w txt st (desc pre.length p.2.length)) pre.length p.2.length [(pre.length, p.1)]) →
    ∀ (pre post : List Nat) (st : List (List Nat) × List Nat), txt = pre ++ ((ps.map (·.2)).flatten ++ post) → st.1.length = txt.length → (∀ j, j < pre.length + (ps.map (·.2)).flatten.length → st.1[j]? = some []) →
      ∃ tops : List (Nat × List Nat), tops.map (·.2) = ps.map (·.1) ∧ KRan g st (krun g.w txt st (desc pre.length (ps.map (·.2)).flatten.length)) pre.length (ps.map (·.2)).flatten.length tops
  | [], _, pre, post, st, _, _, _ => ⟨[], rfl, ⟨rfl, fun _ _ => rfl, by simp [krun, desc], fun _ h => nomatch h⟩⟩
  | p :: r, ih, pre, post, st, e, hl, h0 => by
    rw [List.map_cons, List.flatten_cons, List.length_append] at h0
    rw [List.map_cons, List.flatten_cons] at e
    obtain ⟨tops, et, R⟩ := krun_forest hi r (fun q hq => ih q (List.mem_cons_of_mem _ hq)) (pre ++ p.2) post st (by rw [e]; simp only [List.append_assoc]) hl (fun j hj => h0 j (by rw [List.length_append] at hj; omega))
    rw [List.length_append] at R
    have R1 := ih p List.mem_cons_self pre ((r.map (·.2)).flatten ++ post) (krun g.w txt st (desc (pre.length + p.2.length) (r.map (·.2)).flatten.length)) (by rw [e]; simp only [List.append_assoc]) (R.len.trans hl)
      (fun j hj => by rw [R.out j (.inl hj)]; exact h0 j (by omega))
    refine ⟨(pre.length, p.1) :: tops, by rw [List.map_cons, List.map_cons, et], ?_⟩
    have e2 : krun g.w txt st (desc pre.length (((p :: r).map (·.2)).flatten.length)) = krun g.w txt (krun g.w txt st (desc (pre.length + p.2.length) (r.map (·.2)).flatten.length)) (desc pre.length p.2.length) := by
      rw [List.map_cons, List.flatten_cons, List.length_append, desc_add, krun_append]
    have e3 : ((p :: r).map (·.2)).flatten.length = p.2.length + (r.map (·.2)).flatten.length := by
      rw [List.map_cons, List.flatten_cons, List.length_append]
    rw [e2, e3]
    refine ⟨R1.len.trans R.len, fun j hj => ?_, ?_, fun q hq => ?_⟩
    · rw [R1.out j (by omega), R.out j (by omega)]
    · rw [R1.tops, R.tops]
      simp
    · rcases List.mem_cons.mp hq with z | z
      · have h1 := R1.sub (pre.length, p.1) List.mem_cons_self
        rw [z]
        exact ⟨h1.1, h1.2.stay (by omega) fun _ _ _ => rfl⟩
      · have h1 := R.sub q z
        refine ⟨by omega, h1.2.stay (by omega) fun j h2 h3 => R1.out j (by omega)⟩
theorem krun_tree {txt : List Nat} (hw : 1 ≤ g.w) {l s : List Nat} (h : g.Der l s) :
    ∀ (pre post : List Nat) (st : List (List Nat) × List Nat), txt = pre ++ (s ++ post) → st.1.length = txt.length → (∀ j, j < pre.length + s.length → st.1[j]? = some []) →
      KRan g st (krun g.w txt st (desc pre.length s.length)) pre.length s.length [(pre.length, l)] := by
  induction h with
  | leaf =>
    intro pre post st e hl h0
    have e1 : txt[pre.length]? = some 46 := by
      rw [e]
      simp
    have e2 : krun g.w txt st (desc pre.length [46].length) = (st.1, st.2 ++ [pre.length]) := by
      show kstep g.w txt st pre.length = _
      unfold kstep
      rw [e1, if_neg (by decide)]
    rw [e2]
    refine ⟨rfl, fun _ _ => rfl, by simp, fun p hp => ?_⟩
    rw [List.mem_singleton] at hp
    rw [hp]
    exact ⟨Nat.le_refl _, .leaf _ (by simp) (h0 _ (by simp))⟩
  | node ps hlen hd ih =>
    intro pre post st e hl h0
    have e1 : txt[pre.length]? = some 43 := by
      rw [e]
      simp
    rw [List.length_cons] at h0
    obtain ⟨tops, et, R⟩ := krun_forest (g := g) (txt := txt) (fun _ => trivial) ps ih (pre ++ [43]) post st (by rw [e]; simp) hl (fun j hj => h0 j (by rw [List.length_append, List.length_singleton] at hj; omega))
    rw [List.length_append, List.length_singleton] at R
    have e2 : krun g.w txt st (desc pre.length (43 :: (ps.map (·.2)).flatten).length) = kstep g.w txt (krun g.w txt st (desc (pre.length + 1) (ps.map (·.2)).flatten.length)) pre.length := by
      rw [List.length_cons, desc_one, krun_append]
      rfl
    rw [e2]
    generalize krun g.w txt st (desc (pre.length + 1) (ps.map (·.2)).flatten.length) = st' at R
    have lt : tops.length = g.w := by
      have := congrArg List.length et
      rw [List.length_map, List.length_map] at this
      omega
    have l2 : st'.2.length - g.w = st.2.length := by
      rw [R.tops, List.length_append, List.length_reverse, List.length_map]
      omega
    have e3 : kstep g.w txt st' pre.length = (st'.1.set pre.length (tops.map (·.1)), st.2 ++ [pre.length]) := by
      unfold kstep
      rw [e1, if_pos rfl, l2, R.tops]
      simp
    rw [e3]
    have hp : pre.length < st'.1.length := by
      rw [R.len, hl, e]
      simp
    refine ⟨by rw [List.length_set]; exact R.len, fun j hj => ?_, by simp, fun p hp' => ?_⟩
    · show (st'.1.set pre.length (tops.map (·.1)))[j]? = _
      rw [List.length_cons] at hj
      rw [List.getElem?_set_ne (by omega)]
      exact R.out j (by omega)
    · rw [List.mem_singleton] at hp'
      rw [hp']
      refine ⟨Nat.le_refl _, ?_⟩
      show Sub g (st'.1.set pre.length (tops.map (·.1))) (pre.length + (43 :: (ps.map (·.2)).flatten).length) pre.length (g.F (ps.map (·.1)))
      rw [← et]
      refine .node _ tops (by simp) (List.getElem?_set_self hp) (fun z => by rw [z] at lt; simp at lt; omega) (fun q hq => ?_) fun q hq => ?_
      · have h1 := (R.sub q hq).1
        omega
      · have h1 := R.sub q hq
        exact h1.2.stay (by rw [List.length_cons]; omega) fun j h2 h3 => List.getElem?_set_ne (by omega)
theorem kids_sub (hw : 1 ≤ g.w) {l s : List Nat} (h : g.Der l s) : (kids g.w s).length = s.length ∧ Sub g (kids g.w s) s.length 0 l := by
  have R := krun_tree (txt := s) hw h [] [] (List.replicate s.length [], []) (by simp) (by simp) (fun j hj => by
    rw [List.getElem?_replicate, if_pos]
    simpa using hj)
  rw [List.length_nil] at R
  have h2 := (R.sub (0, l) List.mem_cons_self).2
  rw [Nat.zero_add] at h2
  exact ⟨R.len.trans List.length_replicate, h2⟩
def Stands (g : Grid) (C : List (List Nat)) (ks : List Nat) (a : Nat) : Prop := ks = [] ∨ ∃ y, g.Way a y ∧ ∀ (j c q : Nat), y[j]? = some c → ks[j]? = some q → c ∈ C.getD q []
noncomputable def canAt (g : Grid) (K C : List (List Nat)) (k : Nat) : List Nat := g.let_.filter fun a => @decide (Stands g C (K.getD k []) a) (Classical.propDecidable _)
noncomputable def cstep (g : Grid) (K C : List (List Nat)) (k : Nat) : List (List Nat) := C.set k (canAt g K C k)
noncomputable def crun (g : Grid) (K C : List (List Nat)) (ks : List Nat) : List (List Nat) := ks.foldl (cstep g K) C
theorem crun_len {K : List (List Nat)} : ∀ {ks : List Nat} {C : List (List Nat)}, (crun g K C ks).length = C.length
  | [], _ => rfl
  | k :: r, C => by
    show (crun g K (cstep g K C k) r).length = _
    rw [crun_len (ks := r)]
    exact List.length_set
theorem canAt_sub {K C : List (List Nat)} {hi k : Nat} {l : List Nat} (h : Sub g K hi k l) (hC : ∀ j l', k < j → Sub g K hi j l' → C[j]? = some l') : canAt g K C k = l := by
  unfold canAt
  cases h with
  | leaf _ hk ek =>
    rw [List.getD_eq_getElem?_getD, ek]
    exact List.filter_eq_self.mpr fun a _ => @decide_eq_true _ (Classical.propDecidable _) (.inl rfl)
  | node _ ps hk ek hne hlt hp =>
    have egd : K.getD k [] = ps.map (·.1) := by
      rw [List.getD_eq_getElem?_getD, ek]
      rfl
    rw [egd]
    unfold Grid.F
    refine List.filter_congr fun a _ => ?_
    have hiff : Stands g C (ps.map (·.1)) a ↔ g.Can (ps.map (·.2)) a := by
      constructor
      · rintro (z | ⟨y, hy, hz⟩)
        · rw [List.map_eq_nil_iff] at z
          exact absurd z hne
        · refine ⟨y, hy, fun j c l h1 h2 => ?_⟩
          rw [List.getElem?_map] at h2
          cases e : ps[j]? with
          | none =>
            rw [e] at h2
            cases h2
          | some p =>
            rw [e] at h2
            cases h2
            have q := hz j c p.1 h1 (by rw [List.getElem?_map, e]; rfl)
            have hm := hp p (List.mem_of_getElem? e)
            have hm2 := hlt p (List.mem_of_getElem? e)
            rw [List.getD_eq_getElem?_getD, hC p.1 p.2 hm2 hm] at q
            exact q
      · rintro ⟨y, hy, hz⟩
        refine .inr ⟨y, hy, fun j c q h1 h2 => ?_⟩
        rw [List.getElem?_map] at h2
        cases e : ps[j]? with
        | none =>
          rw [e] at h2
          cases h2
        | some p =>
          rw [e] at h2
          cases h2
          have hm := hp p (List.mem_of_getElem? e)
          have hm2 := hlt p (List.mem_of_getElem? e)
          rw [List.getD_eq_getElem?_getD, hC p.1 p.2 hm2 hm]
          exact hz j c p.2 h1 (by rw [List.getElem?_map, e]; rfl)
    by_cases c : g.Can (ps.map (·.2)) a
    · rw [@decide_eq_true _ (Classical.propDecidable _) c, @decide_eq_true _ (Classical.propDecidable _) (hiff.mpr c)]
    · rw [@decide_eq_false _ (Classical.propDecidable _) c, @decide_eq_false _ (Classical.propDecidable _) (fun z => c (hiff.mp z))]
theorem crun_sub {K : List (List Nat)} {hi : Nat} : ∀ (n lo : Nat) (C : List (List Nat)), C.length = hi → lo + n = hi → ∀ j l, lo ≤ j → Sub g K hi j l → (crun g K C (desc lo n))[j]? = some l
  | 0, lo, C, hl, e, j, l, hj, h => by
    have := h.lt
    omega
  | n + 1, lo, C, hl, e, j, l, hj, h => by
    rw [desc_one]
    unfold crun
    rw [List.foldl_append]
    show (cstep g K (crun g K C (desc (lo + 1) n)) lo)[j]? = some l
    unfold cstep
    have ih : ∀ j l, lo + 1 ≤ j → Sub g K hi j l → (crun g K C (desc (lo + 1) n))[j]? = some l := crun_sub n (lo + 1) C hl (by omega)
    by_cases z : lo = j
    · subst z
      rw [List.getElem?_set_self (by rw [crun_len]; omega)]
      exact congrArg some (canAt_sub h fun j l' h1 h2 => ih j l' h1 h2)
    · rw [List.getElem?_set_ne z]
      exact ih j l (by omega) h
theorem cans_top (hw : 1 ≤ g.w) {l s : List Nat} (h : g.Der l s) : (crun g (kids g.w s) (List.replicate s.length []) (desc 0 s.length))[0]? = some l :=
  crun_sub s.length 0 _ (by rw [List.length_replicate]) (Nat.zero_add _) 0 l (Nat.le_refl _) (kids_sub hw h).2
end K27
/-! K27: rules of our own over HandS: a call by keywords alone, a star in a tuple, text * int, list(text), (int, text) < (int, text). -/
namespace K27R
open PySem PySem.Spec PyProof.Rows L2
section
variable {X : Cx}
/-- f(a=x, ..): keywords alone -/
theorem pe_kw {CX : CXT} {k : Nat} {f : Addr} {fd : FuncData} {ps ks : List Str} {sp : Sp} {E : XK} {x : Str} {p pos : Pos} {kws : List Keyword} {tk : TA} {g : List Value → List Value → List Value} {gV : List V → List V → List V}
    (F : FnOk X.prog X.w X.K X.mg X.base CX k f fd ps sp) (room : Room k X.A) (glob : Gl X x) (at_ : X.mg x = some (.ref f)) (kept : PySem.W.keepIn X.K (.ref f) = true) (bind : KBinds X.K fd ps ks g gV) (pass : Passes CX X E)
    (args : PK X kws tk) (named : (backToKw pos (keywordEach kws X.env)).all (·.1.isSome) = true := by rfl) (names : (backToKw pos (keywordEach kws X.env)).filterMap (·.1) = ks := by rfl)
    (nodb : (x == ("__debug__" : Str)) = false := by decide) (plain : ((backTo pos (starEach [] X.env)).any (·.1) || (backToKw pos (keywordEach kws X.env)).any (·.1.isNone)) = false := by rfl) :
    PE X (.Call (.Name x p) [] kws pos) (fun σ H Q => tk σ H fun zs H2 => sp (gV [] zs) H2 Q E) := by
  constructor
  intro pins s σ H Q I h
  refine wpAny_Call_Name_kw (ld_glob I glob at_ ?_ nodb)
  refine PySem.W.callWith_KW0 (h₀ := X.base) I.ok.mod.kin kept named ?_ plain
  refine thn (args.run pos pins s σ H _ I h) fun ws s2 ⟨zs, H2, I2, rz, q2⟩ => ⟨I2.kIn, ?_⟩
  rw [names]
  exact run_fnk (us := []) (vs := []) F room bind pass I2 .nil rz q2
/-- ( *e, ..): e a tuple -/
theorem pa_star {e : Expr} {es : List Expr} {te : TE} {t : TA} {sp : Pos} (he : PE X e te) (hr : PA X es t) :
    PA X (.Starred e sp :: es) (fun σ H Q => te σ H fun y H1 => ∃ a xs, y = .ref a ∧ SqT X.K H1 a xs ∧ t σ H1 fun ys H2 => Q (xs ++ ys) H2) := by
  constructor
  intro pos pins s σ H Q I h
  show wpAny _ _ (spliced ((true, (do let v ← eval e X.env; standAt pos; pure v)) :: backTo pos (starEach es X.env))) _ _ s
  refine PySem.W.ks_spliced (thn (he.run pins s σ H _ I h) fun v s1 ⟨y, H1, I1, ry, a, xs, ey, hs, q⟩ => ?_)
  subst ey
  cases ry
  refine star_tup I1 hs fun us s2 I2 rv => ?_
  exact thn (hr.run pos pins s2 σ H1 _ I2 q) fun ws s3 ⟨ys, H2, I3, rw', q2⟩ => ⟨xs ++ ys, H2, I3, rv.append rw', q2⟩
/-- the text so many times -/
def timesS (z : Str) (n : Nat) : Str := ⟨((List.replicate n z.cps.toList).flatten).toArray⟩
theorem fold_times (a : Array Nat) : ∀ (n : Nat) (acc : Array Nat), (List.replicate n a).foldl (· ++ ·) acc = acc ++ ((List.replicate n a.toList).flatten).toArray
  | 0, acc => by simp
  | n + 1, acc => by
    rw [List.replicate_succ, List.foldl_cons, fold_times a n, List.replicate_succ, List.flatten_cons]
    apply Array.ext'
    simp
theorem op_times : OpR X (binaryOp .Mult) (fun x y H Q => ∃ (z : Str) (n : Nat), x = .str z ∧ y = .int (n : Int) ∧ n ≤ sizeLine ∧ z.length = 1 ∧ Q (.str (timesS z n)) H) := by
  intro pins s σ H x y v u Q I rx ry h
  obtain ⟨z, n, rfl, rfl, hn, hz, q⟩ := h
  obtain ⟨t, rfl⟩ := rx
  obtain ⟨t', rfl⟩ := ry
  have hsl : sizeLine = 16777216 := by rw [sizeLine_eq]
  have fin : ∀ (w' : Str) (u' : Tok), w' = timesS z n → ∀ s' : Shared, s'.heap = s.heap → (∃ k, s' = { s with toks := k }) → EP X pins σ Q (.str w' u') s' := fun w' u' ew s' _ ⟨k, es⟩ => by
    subst ew
    subst es
    exact ⟨.str (timesS z n), H, I.tok k, ⟨_, rfl⟩, q⟩
  refine PySem.P.mul_str ?_ ?_ ?_ ?_
  · rw [decide_eq_false (by omega), decide_eq_false (by omega)]
    rfl
  · intro h1 _
    have h3 : (1 : Int) ≤ (2 ^ 63 - 1) / (n : Int) := by
      refine Int.le_ediv_of_mul_le (by omega) ?_
      omega
    rw [hz]
    omega
  · intro h1 _
    unfold Builtin.Str.tooLong
    refine decide_eq_false ?_
    rw [hz, Int.toNat_natCast]
    omega
  · by_cases h1 : (n : Int) < 1
    · rw [if_pos h1]
      have hn0 : n = 0 := by omega
      subst hn0
      exact ⟨by decide, fin _ _ (by rfl) _ rfl ⟨_, rfl⟩⟩
    · rw [if_neg h1]
      by_cases h2 : ((n : Int) == 1 || z.length == 0) = true
      · rw [if_pos h2]
        have hn1 : n = 1 := by
          rw [hz] at h2
          simp at h2
          omega
        subst hn1
        have e1 : timesS z 1 = z := by
          unfold timesS
          simp
        exact fin z t e1.symm _ rfl ⟨_, rfl⟩
      · rw [if_neg h2, Int.toNat_natCast]
        refine ⟨?_, fin _ _ ?_ _ rfl ⟨_, rfl⟩⟩
        · rw [fold_times]
          show (#[] ++ ((List.replicate n z.cps.toList).flatten).toArray).size ≤ _
          have : ((List.replicate n z.cps.toList).flatten).length = n * z.cps.toList.length := by simp
          have e2 : z.cps.toList.length = 1 := by simpa [Str.length] using hz
          simp only [Array.empty_append, List.size_toArray]
          rw [this, e2]
          omega
        · unfold timesS
          rw [fold_times]
          simp
end
end K27R
/-! K27: list(text); (int, text) < (int, text); zip(text, tuple). -/
namespace K27R
open PySem PySem.Spec PyProof.Rows L2
section
variable {X : Cx}
/-- the signs of a text, each a text -/
def signs (z : Str) : List V := z.cps.toList.map fun c => V.str ⟨#[c]⟩
theorem signs_vals {z : Str} {acc : Array Value} (h : ItemsOf (SignAt z) acc z.cps.size) : Vals (signs z) acc.toList := by
  refine vals_at ?_ ?_
  · unfold signs
    rw [List.length_map, Array.length_toList, Array.length_toList]
    exact h.1.symm
  · intro j x u hx hu
    obtain ⟨c, t, hc, eu⟩ := h.2 j u (by rw [← Array.getElem?_toList]; exact hu)
    unfold signs at hx
    rw [List.getElem?_map, Array.getElem?_toList, hc] at hx
    cases hx
    exact ⟨t, eu⟩
where
  vals_at : ∀ {xs : List V} {us : List Value}, xs.length = us.length → (∀ (j : Nat) (x : V) (u : Value), xs[j]? = some x → us[j]? = some u → RelV x u) → Vals xs us
    | [], [], _, _ => .nil
    | [], _ :: _, h, _ => by simp at h
    | _ :: _, [], h, _ => by simp at h
    | x :: xs, u :: us, h, k => .cons (k 0 x u rfl rfl) (vals_at (by simpa using h) fun j y w hy hw => k (j + 1) y w hy hw)
theorem call_listS (calm : X.calm = true) : CallR X (.type "list") (fun xs H Q => ∃ z, xs = [.str z] ∧ z.length ≤ sizeLine ∧ ∀ l, H l = none → Q (.ref l) (upd H l (.lst (signs z)))) := by
  intro pins s σ H xs us Q I r h
  obtain ⟨z, rfl, hz, q⟩ := h
  obtain ⟨u, rfl, rx⟩ := vals1 r
  obtain ⟨t, rfl⟩ := rx
  have len : (signs z).length ≤ sizeLine := by
    unfold signs
    rw [List.length_map, Array.length_toList]
    exact hz
  refine PySem.call_list_str (I.ok.hd calm) z t (hn := hz) fun h' tk acc c k e it => ?_
  refine ⟨.ref s.heap.objs.size, upd H s.heap.objs.size (.lst (signs z)), I.laid k (Nat.le_refl _) ?_, rfl, q _ (I.hok.fresh (Nat.le_refl _))⟩
  refine ⟨len, acc.toList, c, signs_vals it, ?_⟩
  rw [e]
/-- (n, x) < (m, y) -/
def pairLt (n : Int) (x : Str) (m : Int) (y : Str) : Bool := if n = m then decide (x.cps.toList < y.cps.toList) else decide (n < m)
theorem op_ltP (room : X.A.units + 1 < cLine) : OpR X (compareOp .Lt) (fun v u H Q => ∃ a b n x m y, v = .ref a ∧ u = .ref b ∧ SqT X.K H a [.int n, .str x] ∧ SqT X.K H b [.int m, .str y] ∧ Q (.bl (pairLt n x m y)) H) := by
  intro pins s σ H v u w1 w2 Q I rv ru h
  obtain ⟨a, b, n, x, m, y, rfl, rfl, ha, hb, q⟩ := h
  cases rv
  cases ru
  obtain ⟨its, r1, p1, _⟩ := I.tuple ha
  obtain ⟨its2, r2, p2, _⟩ := I.tuple hb
  obtain ⟨u1, u2, rfl, ru1, ru2⟩ := vals2 r1
  obtain ⟨k1, k2, rfl, rk1, rk2⟩ := vals2 r2
  obtain ⟨t1, rfl⟩ := ru1
  obtain ⟨t2, rfl⟩ := ru2
  obtain ⟨t3, rfl⟩ := rk1
  obtain ⟨t4, rfl⟩ := rk2
  have lt := Ob.RcOp.tuples_lt (A := X.A) (s := s) (l := a) (b := b) (e := fun j => if j = 0 then n == m else x == y) (r := fun j => if j = 0 then decide (n < m) else decide (x.cps.toList < y.cps.toList)) p1 p2 (by omega)
    (fun j h1 h2 => by
      match j, h1 with
      | 0, _ => exact SeqAt.EqAt.int_int n t1 m t3
      | 1, _ => exact SeqAt.EqAt.str_str x t2 y t4
      | j + 2, h1 => exact absurd h1 (by simp))
    (fun j h1 h2 _ => by
      match j, h1 with
      | 0, _ => exact Ob.RcOp.lt_int n m t1 t3
      | 1, _ => exact fun _ _ _ _ hq => P.lt_str hq
      | j + 2, h1 => exact absurd h1 (by simp))
  refine lt _ _ _ _ ⟨.bl (pairLt n x m y), H, I, ?_, q⟩
  show Value.bool _ = Value.bool _
  congr 1
  show Ob.lexAt _ _ _ 0 2 = _
  rw [Ob.lexAt_succ, Ob.lexAt_succ, Ob.lexAt_zero]
  unfold pairLt
  simp only [if_true, Nat.zero_add, Nat.one_ne_zero, if_false, beq_iff_eq]
  by_cases e : n = m
  · rw [if_pos e, if_pos e]
    by_cases e2 : x = y
    · rw [if_pos e2, e2]
      have : ¬ y.cps.toList < y.cps.toList := List.lt_irrefl _
      simp [this]
    · rw [if_neg e2]
  · rw [if_neg e, if_neg e]
end
end K27R
/-! K27: for a, b in zip(text, tuple). -/
namespace K27R
open PySem PySem.Spec PyProof.Rows L2
/-- a text's signs beside a tuple's items -/
def Itx (K : PySem.W.Frag) (z : Str) (b : Addr) : It where
  go i H := i < z.cps.size ∧ ∃ ys y, SqT K H b ys ∧ ys[i]? = some y
  yld i H v H' := ∃ T c y, v = .ref T ∧ H T = none ∧ H' = upd H T (.tup [.str ⟨#[c]⟩, y]) ∧ z.cps[i]? = some c ∧ ∀ ys, SqT K H b ys → ys[i]? = some y
  stop i H := i ≤ z.cps.size ∧ ∃ ys, SqT K H b ys ∧ i ≤ ys.length ∧ (z.cps.size = i ∨ ys.length = i)
/-- where the five cells of the zip stand: from n on -/
abbrev five (n : Nat) : List Addr := [n + 4, n + 2, n + 3, n, n + 1]
theorem five_nat {n c : Nat} (h : c ∈ [n + 4, n + 2, n + 3, n, n + 1]) : n ≤ c ∧ c < n + 5 := by
  simp only [List.mem_cons, List.not_mem_nil, or_false] at h
  omega
theorem five_ge {n : Nat} {c : Addr} (h : c ∈ five n) : (n : Nat) ≤ c ∧ c < (n + 5 : Nat) := five_nat h
theorem lt_five {n c m : Nat} (h : c < n + 5) (h2 : n + 4 < m) : c < m := by omega
theorem not_five {n : Nat} {c : Addr} (h : c ∉ five n) : c ≠ (n + 4 : Nat) ∧ c ≠ (n + 3 : Nat) ∧ c ≠ n ∧ c ≠ (n + 1 : Nat) :=
  ⟨fun e => h (by simp [e]), fun e => h (by simp [e]), fun e => h (by simp [e]), fun e => h (by simp [e])⟩
def ZSt (n : Nat) (z : Str) (t : Tok) (b : Addr) (i : Nat) (h : Heap) : Prop :=
  IsZip h (n + 4 : Nat) (n + 2 : Nat) (n + 3 : Nat) .none ∧ IsTupOf2 h (n + 2 : Nat) (.ref n) (.ref (n + 1 : Nat)) ∧ (∃ x y, IsTupOf2 h (n + 3 : Nat) x y) ∧ h.IsStrIter n (strIterType z) z t i ∧ h.IsTupleIter (n + 1 : Nat) b i
theorem turn_zipx {P : Program} {w : World} {K : PySem.W.Frag} {elts : List Expr} {kk : Nat} {tpos : Pos} {n : Nat} {z : Str} {t : Tok} {b : Addr} (hb : (b : Nat) < n) :
    Turn P w K (.Tuple elts kk tpos) (Itx K z b) (five n) (n + 4 : Nat) (ZSt n z t b) where
  mem := by simp
  obj i h st c hc := by
    obtain ⟨hz, hTI, ⟨x, y, hTO⟩, ⟨o1, e1, _, d1⟩, ⟨o2, e2, _, d2⟩⟩ := st
    have e : c = (n + 4 : Nat) ∨ c = (n + 2 : Nat) ∨ c = (n + 3 : Nat) ∨ c = n ∨ c = (n + 1 : Nat) := by simpa using hc
    rcases e with e | e | e | e | e
    · rw [e]
      exact ⟨_, hz, fun v q => nomatch q⟩
    · rw [e]
      exact ⟨_, hTI, fun v q => nomatch q⟩
    · rw [e]
      exact ⟨_, hTO, fun v q => nomatch q⟩
    · rw [e]
      exact ⟨o1, e1, fun v q => by rw [d1] at q; cases q⟩
    · rw [e]
      exact ⟨o2, e2, fun v q => by rw [d2] at q; cases q⟩
  keep i h h' st k := by
    obtain ⟨hz, hTI, ⟨x, y, hTO⟩, ⟨o1, e1, r1⟩, h2⟩ := st
    exact ⟨k _ (by simp) _ hz, k _ (by simp) _ hTI, ⟨x, y, k _ (by simp) _ hTO⟩, ⟨o1, k _ (by simp) _ e1, r1⟩, h2.at fun o q => k _ (by simp) o q⟩
  item := by
    intro X hP hw hK hc i pins s σ H E I hf st hg
    subst hP hw hK
    obtain ⟨hz, hTI, ⟨x0, y0, hTO⟩, h1, h2⟩ := st
    obtain ⟨hi, ys, y, hq, hy⟩ := hg
    obtain ⟨its, rv, p, _⟩ := I.tuple hq
    obtain ⟨u, hu, ru⟩ := rv.get hy
    have hzl : ((n + 4 : Nat) : Addr) < s.heap.objs.size := Heap.lt_size hz
    have S := zip_sep2 (N := n) (fp1 := []) (fp2 := [b]) (fun _ h => nomatch h) (fun c h => by rw [List.mem_singleton.mp h]; exact hb)
    have hi2 : i < its.toArray.size := by
      rw [List.size_toArray]
      exact (List.getElem?_eq_some_iff.mp hu).1
    have hA : X.A.in1.handled = none := by simp [I.ok.hd hc]
    have D1 : Draws X.prog X.w X.A.in1 (n : Addr) [n] z.cps.size (fun i v => ∃ c u, z.cps[i]? = some c ∧ v = .str ⟨#[c]⟩ u) (fun i h => h.IsStrIter n (strIterType z) z t i) := Draws.text hA n z t
    have D2 : Draws X.prog X.w X.A.in1 (n + 1 : Nat) [(n + 1 : Nat), b] its.toArray.size (fun i v => its.toArray[i]? = some v) (fun i h => h.IsTupleIter (n + 1 : Nat) b i ∧ h.IsTuple b its.toArray) :=
      Draws.tuple hA (n + 1 : Nat) b (Nat.ne_of_lt (Nat.lt_succ_of_lt hb)) its.toArray
    refine wpAny_pyNext_zipD2_item S D1 D2 hz hTI hTO h1 ⟨h2, p⟩ hi hi2 fun v1 v2 h' tk y1 y2 hz' hTO' d1 d2 hT hsz hk => ?_
    obtain ⟨c, t1, hcx, rfl⟩ := y1
    have ev : v2 = u := by
      have y3 : its.toArray[i]? = some v2 := y2
      rw [List.getElem?_toArray, hu] at y3
      exact (Option.some.inj y3).symm
    subst ev
    refine ⟨_, rfl, wpAny_letOwnedTupleGo_zip (s := { s with heap := h', toks := tk }) hz' fun h'' z'' sb => ?_⟩
    have hT2 : IsTupOf2 h'' s.heap.objs.size (.str ⟨#[c]⟩ t1) v2 := (sb.2 _ (Nat.ne_of_gt hzl)).trans hT
    have new : ObjOk X.prog X.w (upd H s.heap.objs.size (.tup [.str ⟨#[c]⟩, y])) h'' s.heap.objs.size (.tup [.str ⟨#[c]⟩, y]) :=
      ⟨by show 2 ≤ sizeLine; decide, [.str ⟨#[c]⟩ t1, v2], .cons ⟨t1, rfl⟩ (.cons ru .nil), ⟨_, hT2, rfl, _, rfl⟩⟩
    have old : ∀ a o, a ∉ five n → s.heap.get? a = some o → h''.get? a = some o := fun a o ha q => by
      obtain ⟨q1, q2, q3, q4⟩ := not_five ha
      exact (sb.2 a q1).trans (hk a o q1 q2 q3 q4 q)
    have I1 : Inv X pins σ (upd H s.heap.objs.size (.tup [.str ⟨#[c]⟩, y])) { s with heap := h'', toks := tk } := I.turnedNew (t' := tk) (ch := five n) old hf (Nat.le_refl _) new
    refine ⟨.ref s.heap.objs.size, _, I1, rfl, ⟨_, c, y, rfl, I.hok.fresh (Nat.le_refl _), rfl, hcx, fun l hl => by rw [I.tuple_inj hl hq]; exact hy⟩, ⟨z'', ?_, ⟨_, _, (sb.2 _ S.TOz).trans hTO'⟩, ?_, ?_⟩, fun a ha => ?_⟩
    · exact (sb.2 _ S.TIz).trans (hk _ _ S.TIz S.TITO S.TIi1 S.TIi2 hTI)
    · obtain ⟨o1, e1, r1⟩ := d1
      exact ⟨o1, (sb.2 _ (show (n : Addr) ≠ (n + 4 : Nat) from Nat.ne_of_lt (Nat.lt_add_of_pos_right (by decide)))).trans e1, r1⟩
    · exact d2.1.at fun o q => (sb.2 _ (show ((n + 1 : Nat) : Addr) ≠ (n + 4 : Nat) from Nat.ne_of_lt (show n + 1 < n + 4 by omega))).trans q
    · have hlt : a < s.heap.objs.size := lt_five (five_ge ha).2 hzl
      rw [upd_ne (Nat.ne_of_lt hlt)]
      exact (hf a ha).1
  done := by
    intro X hP hw hK hc i pins s σ H E I hf st hg
    subst hP hw hK
    obtain ⟨hz, hTI, ⟨x0, y0, hTO⟩, h1, h2⟩ := st
    obtain ⟨hi, ys, hq, hi2, hend⟩ := hg
    obtain ⟨its, rv, p, _⟩ := I.tuple hq
    have l2 := rv.length
    have hsz : its.toArray.size = its.length := List.size_toArray
    have S := zip_sep2 (N := n) (fp1 := []) (fp2 := [b]) (fun _ h => nomatch h) (fun c h => by rw [List.mem_singleton.mp h]; exact hb)
    have hA : X.A.in1.handled = none := by simp [I.ok.hd hc]
    have D1 : Draws X.prog X.w X.A.in1 (n : Addr) [n] z.cps.size (fun i v => ∃ c u, z.cps[i]? = some c ∧ v = .str ⟨#[c]⟩ u) (fun i h => h.IsStrIter n (strIterType z) z t i) := Draws.text hA n z t
    have D2 : Draws X.prog X.w X.A.in1 (n + 1 : Nat) [(n + 1 : Nat), b] its.toArray.size (fun i v => its.toArray[i]? = some v) (fun i h => h.IsTupleIter (n + 1 : Nat) b i ∧ h.IsTuple b its.toArray) :=
      Draws.tuple hA (n + 1 : Nat) b (Nat.ne_of_lt (Nat.lt_succ_of_lt hb)) its.toArray
    refine wpAny_pyNext_zipD2_end S D1 D2 hz hTI hTO h1 ⟨h2, p⟩ hi (hsz.symm ▸ l2 ▸ hi2) (hend.imp Eq.symm fun q => by rw [hsz, ← l2, q]) fun h' tk hk => ?_
    refine ⟨rfl, I.turnedL (t' := tk) (ch := five n) (fun a o ha q => ?_) hf⟩
    obtain ⟨q1, q2, q3, q4⟩ := not_five ha
    exact hk a o q1 q2 q3 q4 q
  self A i s Q E st h := wpAny_pyIter_zip st.1 h
/-- zip(e, e2): a text and a tuple -/
def iZipx (K : PySem.W.Frag) (ta : TA) : TI := fun σ H R => ta σ H fun vs H1 => ∃ z b ys, vs = [.str z, .ref b] ∧ SqT K H1 b ys ∧ R (Itx K z b) H1
theorem pi_zipx {X : Cx} {e e2 : Expr} {ta : TA} {p pos tpos : Pos} {elts : List Expr} {kk : Nat} (glob : Gl X "zip") (free : X.mg "zip" = none) (args : PA X [e, e2] ta)
    (one : starEach [e, e2] X.env = (false, eval e X.env) :: starEach [e2] X.env := by rfl) (plain : (backTo pos (starEach [e2] X.env)).any (·.1) = false := by rfl) :
    PI X (.Tuple elts kk tpos) (.Call (.Name "zip" p) [e, e2] [] pos) (iZipx X.K ta) := by
  constructor
  intro pins s σ H R I h
  refine Call_ (ld_blt I glob free PyProof.Rows.boot_zip (PyProof.Rows.callWith_type1 (thn (args.run pos pins s σ H _ I h) fun us s1 ⟨vs, H1, I1, r1, q1⟩ => ?_) one plain))
  obtain ⟨z, b, ys, ex, hq, q⟩ := q1
  subst ex
  obtain ⟨u1, u2, rfl, ru1, ru2⟩ := vals2 r1
  obtain ⟨t, rfl⟩ := ru1
  cases ru2
  obtain ⟨its, rv, p1, _⟩ := I1.tuple hq
  have lb : b < s1.heap.objs.size := p1.lt
  refine zip_begins2 (begins_text z t) (begins_tuple b its.toArray) trivial p1 fun h' hz hTI hTO g1 g2 hsz hk => wpAny_pyIter_zip hz ?_
  have I2 : Inv X pins σ H1 { s1 with heap := h' } := I1.kept (t' := s1.toks) hk
  refine ⟨(s1.heap.objs.size + 4 : Nat), five s1.heap.objs.size, _, _, H1, rfl, I2, turn_zipx (t := t) lb, ⟨hz, hTI, ⟨_, _, hTO⟩, ⟨_, g1, rfl, rfl⟩, ⟨_, g2, rfl, rfl⟩⟩, fun c hc => ?_, q⟩
  exact I1.fpOk (five_ge hc).1 (I1.hok.fresh (five_ge hc).1)
/-- .. of a length -/
theorem walk_zipx {K : PySem.W.Frag} {z : Str} {b : Addr} {ys : List V} (hl : z.cps.size = ys.length) :
    Walk (Itx K z b) ys.length (fun H => SqT K H b ys) (fun i H v H' => ∃ T c y, v = .ref T ∧ H T = none ∧ H' = upd H T (.tup [.str ⟨#[c]⟩, y]) ∧ z.cps[i]? = some c ∧ ys[i]? = some y) where
  goes i H hi h := ⟨by omega, ys, ys[i], h, List.getElem?_eq_getElem hi⟩
  stops H h := ⟨by omega, ys, h, Nat.le_refl _, .inr rfl⟩
  yields i H x H' hi h q := by
    obtain ⟨T, c, y, e1, e2, e3, e4, e5⟩ := q
    exact ⟨T, c, y, e1, e2, e3, e4, e5 ys h⟩
end K27R
/-! K27: set(a text or a list of texts), sorted and len of it. -/
namespace K27R
open PySem PySem.Spec PyProof.Rows L2
/-- an element's text -/
def txt (e : Int × Value) : Str := match e.2 with | .str x _ => x | _ => Str.empty
def TxtE (w : World) (e : Int × Value) : Prop := ∃ x tk, e.2 = Value.str x tk ∧ e.1 = hashStr w x
/-- at a there is a set of just the texts xs -/
structure SetS (w : World) (h : Heap) (a : Addr) (xs : List Str) (o : Obj) (es : Array (Int × Value)) (ep : Nat) (t : SetTable) : Prop where
  at_ : h.get? a = some o
  ex : o.ExactSet
  dat : o.data = .set es ep t
  good : ∀ e ∈ es.toList, TxtE w e
  perm : (es.toList.map txt).Perm xs
  nd : xs.Nodup
  few : es.size < scanBound
  fits : t.fits es.size = true
  ris : Ris t.place.toList
  led : w.params.followText "set-order" = true ∨ t.led = true
def IsSetS (w : World) (h : Heap) (a : Addr) (xs : List Str) : Prop := ∃ o es ep t, SetS w h a xs o es ep t
section
variable {P : Program} {w : World} {h h' : Heap} {a : Addr} {xs : List Str}
theorem IsSetS.keep (R : IsSetS w h a xs) (k : ∀ o, h.get? a = some o → h'.get? a = some o) : IsSetS w h' a xs := by
  obtain ⟨o, es, ep, t, r⟩ := R
  exact ⟨o, es, ep, t, { r with at_ := k o r.at_ }⟩
theorem txtE_elems {l : List (Int × Value)} (g : ∀ e ∈ l, TxtE w e) : ElemsOf (PySem.strKind P w) l := fun e he => by
  obtain ⟨x, tk, e1, e2⟩ := g e he
  refine ⟨⟨x, ?_, e2⟩, ?_⟩
  · rw [e1]
    exact strKind_is P w x tk
  · rw [e1]
    rfl
theorem txtE_is {e : Int × Value} (g : TxtE w e) (x : Str) : (PySem.strKind P w).is x e.2 = true ↔ txt e = x := by
  obtain ⟨y, tk, e1, _⟩ := g
  unfold txt
  rw [e1]
  show (Value.isStrOf x (.str y tk) = true) ↔ y = x
  constructor
  · intro q
    obtain ⟨t, e⟩ := Value.isStrOf_shape q
    cases e
    rfl
  · intro q
    subst q
    exact strKind_is P w y tk
end
section
variable {P : Program} {w : World} {A : Around} {E : Value → Shared → Prop} {s : Shared} {a : Addr} {xs : List Str}
/-- the set's new elements are stored, and laid out anew where they fill it -/
theorem setS_tail {g : Bool → Sem Unit} (hg : ∀ (b : Bool) (s₁ : Shared) (Q' : Unit → Shared → Prop), Q' () s₁ → wpAny (model P w) A (g b) Q' E s₁) {o : Obj} {es es1 : Array (Int × Value)} {ep : Nat} {t t2 : SetTable} {ys : List Str}
    (at_ : s.heap.get? a = some o) (ex : o.ExactSet) (dat : o.data = .set es ep t) (good : ∀ e ∈ es1.toList, TxtE w e) (perm : (es1.toList.map txt).Perm ys) (nd : ys.Nodup) (few : es1.size < scanBound)
    (fits : t2.fits es1.size = true) (ris : Ris t2.place.toList) (led : w.params.followText "set-order" = true ∨ t2.led = true) {was : Bool} {R : Option Bool → Shared → Prop}
    (k : ∀ h', Heap.SameBut a s.heap h' → IsSetS w h' a ys → R (some true) { s with heap := h' }) :
    wpAny (model P w) A (do
        storeSet a es1 t2
        if (!was && t2.tooFull) = true then do
            g (relayAll t2 es1 (SetTable.grown es1.size)).2.2
            storeSet a (relayAll t2 es1 (SetTable.grown es1.size)).1 (relayAll t2 es1 (SetTable.grown es1.size)).2.1
            pure (some true)
        else pure (some true)) R E s := by
  refine wpAny_bind (wpAny_storeSet_of at_ dat ?_ (fits_of_scanBound few))
  have now := store_at (es' := es1) (t' := t2) at_ dat
  have but := Heap.SameBut.update s.heap a (Obj.putSet es1 t2)
  split
  · have q1 := relayAll_perm t2 es1 (SetTable.grown es1.size)
    have q2 := relayAll_fits t2 es1 (SetTable.grown es1.size)
    have q3 := relayAll_ris t2 es1 (SetTable.grown es1.size)
    have q4 := relayAll_led t2 es1 (SetTable.grown es1.size)
    generalize relayAll t2 es1 (SetTable.grown es1.size) = Z at q1 q2 q3 q4 ⊢
    obtain ⟨es2, t3, gave⟩ := Z
    dsimp only at q1 q2 q3 q4 ⊢
    have sz : es2.size = es1.size := by
      have := q1.length_eq
      rwa [Array.length_toList, Array.length_toList] at this
    have few2 : es2.size < scanBound := sz ▸ few
    refine wpAny_bind (hg _ _ _ (wpAny_bind (wpAny_storeSet_of now rfl ?_ (fits_of_scanBound few2))))
    have now2 := store_at (es' := es2) (t' := t3) now rfl
    exact wpAny_pure (k _ (but.trans (Heap.SameBut.update _ a _)) ⟨_, es2, _, t3, now2, ex, rfl, fun e he => good e (q1.mem_iff.mp he), (q1.map txt).trans perm, nd, few2, q2, q3, led.imp id fun z => q4.trans z⟩)
  · exact wpAny_pure (k _ but ⟨_, es1, _, t2, now, ex, rfl, good, perm, nd, few, fits, ris, led⟩)
/-- one more text -/
def withT (xs : List Str) (x : Str) : List Str := if x ∈ xs then xs else x :: xs
theorem setS_put {x : Str} {tk : Tok} {Q : Bool → Shared → Prop} (R : IsSetS w s.heap a xs) (room : xs.length + 1 < scanBound)
    (k : ∀ (b : Bool) h', Heap.SameBut a s.heap h' → IsSetS w h' a (withT xs x) → Q b { s with heap := h' }) :
    wpAny (model P w) A (setAddHashed a (.str x tk) ((PySem.strKind P w).hash x)) Q E s := by
  obtain ⟨o, es, ep, t, r⟩ := R
  have key : (PySem.strKind P w).is x (.str x tk) = true := strKind_is P w x tk
  have scan : (Value.str x tk).scannable = true := rfl
  have elems : ElemsOf (PySem.strKind P w) es.toList := txtE_elems r.good
  unfold setAddHashed setAddHashedIn
  refine wpAny_holding (wpAny_bind (wpAny_setState_of r.at_ r.dat r.fits ?_))
  dsimp only
  rw [byScan_of scan r.few elems]
  simp only [↓reduceIte]
  unfold setAddByScan
  refine wpAny_bind (wpAny_bind (wpAny_rule (wpAny_bind (wpAny_setScan_of key r.at_ r.dat r.fits elems ?_))))
  cases found : List.findIdx? (fun e => (PySem.strKind P w).is x e.2) es.toList with
  | some j =>
    dsimp only
    obtain ⟨hj, pj, _⟩ := List.findIdx?_eq_some_iff_getElem.mp found
    have hx : x ∈ xs := r.perm.mem_iff.mp (List.mem_map.mpr ⟨es.toList[j], List.getElem_mem hj, (txtE_is (P := P) (r.good _ (List.getElem_mem hj)) x).mp pj⟩)
    refine wpAny_pure (wpAny_pure (k _ s.heap (Heap.SameBut.refl a s.heap) ?_))
    unfold withT
    rw [if_pos hx]
    exact ⟨o, es, ep, t, r⟩
  | none =>
    dsimp only
    have hx : x ∉ xs := fun z => by
      obtain ⟨e, he, q⟩ := List.mem_map.mp (r.perm.mem_iff.mpr z)
      have c := List.findIdx?_eq_none_iff.mp found e he
      rw [(txtE_is (P := P) (r.good e he) x).mpr q] at c
      cases c
    have give : ∀ (b : Bool) {s₁ : Shared} {Q' : Unit → Shared → Prop}, Q' () s₁ → wpAny (model P w) A (match b with | true => rule "set.scan.the-table-gave-way" | false => pure ()) Q' E s₁ :=
      fun b _ _ q => by
        cases b
        · exact wpAny_pure q
        · exact wpAny_rule q
    have q1 := layNew_perm t es ((PySem.strKind P w).hash x) (.str x tk)
    have q2 := layNew_fits t es ((PySem.strKind P w).hash x) (.str x tk)
    have q3 := layNew_ris t es ((PySem.strKind P w).hash x) (.str x tk) r.ris
    have q4 := layNew_led t es ((PySem.strKind P w).hash x) (.str x tk)
    generalize layNew t es ((PySem.strKind P w).hash x) (.str x tk) = Z at q1 q2 q3 q4 ⊢
    obtain ⟨es1, t1, was, gave⟩ := Z
    dsimp only at q1 q2 q3 q4 ⊢
    rw [Array.toList_push] at q1
    have pc : es1.toList.Perm (((PySem.strKind P w).hash x, Value.str x tk) :: es.toList) := q1.trans (List.perm_append_singleton _ _)
    have pm : (es1.toList.map txt).Perm (x :: xs) := (pc.map txt).trans (.cons x r.perm)
    have good1 : ∀ e ∈ es1.toList, TxtE w e := fun e he => by
      rcases List.mem_cons.mp (pc.mem_iff.mp he) with z | z
      · rw [z]
        exact ⟨x, tk, rfl, rfl⟩
      · exact r.good e z
    have len : es.size = xs.length := by
      have := r.perm.length_eq
      rwa [List.length_map, Array.length_toList] at this
    have sz : es1.size = xs.length + 1 := by
      have := pc.length_eq
      rw [Array.length_toList, List.length_cons, Array.length_toList] at this
      omega
    have few1 : es1.size < scanBound := sz ▸ room
    have led1 : w.params.followText "set-order" = true ∨ t1.led = true := r.led.imp id fun z => q4.trans z
    have fin : ∀ (b : Bool) h', Heap.SameBut a s.heap h' → IsSetS w h' a (x :: xs) → Q b { s with heap := h' } := fun b h' sb rr => by
      refine k b h' sb ?_
      unfold withT
      rw [if_neg hx]
      exact rr
    have nd1 : (x :: xs).Nodup := List.nodup_cons.mpr ⟨hx, r.nd⟩
    refine wpAny_bind (give _ ?_)
    split
    · refine wpAny_bind ?_
      rw [hashByValue_scannable 8 scan]
      refine wpAny_pure (setS_tail (ys := x :: xs) ?_ r.at_ r.ex r.dat good1 pm nd1 few1 ?_ ?_ ?_ ?_)
      · intro b s₁ Q' q
        cases b
        · exact wpAny_pure q
        · exact wpAny_rule q
      · first
          | (split
             · exact q2
             · exact SetTable.fits_plain_off q2)
          | (split
             · exact SetTable.fits_plain_off q2
             · exact q2)
          | exact q2
      · first
          | (split <;> exact q3)
          | exact q3
      · first
          | (split <;> exact led1)
          | exact led1
      · intro h' sb rr
        dsimp only
        exact wpAny_pure (fin _ h' sb rr)
    · refine wpAny_bind (wpAny_pure ?_)
      simp only [↓reduceIte]
      refine setS_tail (ys := x :: xs) ?_ r.at_ r.ex r.dat good1 pm nd1 few1 q2 q3 led1 ?_
      · intro b s₁ Q' q
        cases b
        · exact wpAny_pure q
        · exact wpAny_rule q
      · intro h' sb rr
        dsimp only
        exact wpAny_pure (fin _ h' sb rr)
end
end K27R
/-! K27: set(xs), sorted(set), len(set): texts. -/
namespace K27R
open PySem PySem.Spec PyProof.Rows L2
/-- the texts taken so far, each once -/
def metT (val : Nat → Str) : Nat → List Str
  | 0 => []
  | i + 1 => withT (metT val i) (val i)
theorem metT_mem (val : Nat → Str) (x : Str) : ∀ n, x ∈ metT val n ↔ ∃ i, i < n ∧ val i = x
  | 0 => by simp [metT]
  | n + 1 => by
    have ih := metT_mem val x n
    have e : x ∈ metT val (n + 1) ↔ x ∈ metT val n ∨ val n = x := by
      show x ∈ withT (metT val n) (val n) ↔ _
      unfold withT
      split
      · rename_i h
        constructor
        · exact .inl
        · rintro (q | q)
          · exact q
          · rw [← q]
            exact h
      · rw [List.mem_cons]
        constructor
        · rintro (q | q)
          · exact .inr q.symm
          · exact .inl q
        · rintro (q | q)
          · exact .inr q
          · exact .inl q.symm
    rw [e, ih]
    constructor
    · rintro (⟨i, h1, h2⟩ | h)
      · exact ⟨i, by omega, h2⟩
      · exact ⟨n, by omega, h⟩
    · rintro ⟨i, h1, h2⟩
      by_cases z : i = n
      · subst z
        exact .inr h2
      · exact .inl ⟨i, by omega, h2⟩
theorem metT_len (val : Nat → Str) : ∀ n, (metT val n).length ≤ n
  | 0 => Nat.le_refl _
  | n + 1 => by
    have ih := metT_len val n
    show (withT (metT val n) (val n)).length ≤ n + 1
    unfold withT
    split
    · omega
    · rw [List.length_cons]
      omega
section
variable {prog : Program} {w : World} {A : Around} {R : Result → Shared → Prop} {I : Addr} {fp wr : List Addr} {G : Array GenState → Array GenState → Prop} {n : Nat} {P : Nat → Value → Prop} {St : Nat → Shared → Prop}
/-- the set is filled by what an iterator hands out -/
theorem fill_set (W : WalksS prog w A.in1 I fp wr G n P St) (S : Addr) (out : S ∉ fp) (val : Nat → Str) (isv : ∀ i v, P i v → ∃ t, v = .str (val i) t) (room : n + 1 < scanBound) :
    ∀ (k i : Nat) (s : Shared), n - i = k → i ≤ n → St i s → IsSetS w s.heap S (metT val i) →
      (∀ s', Moved (S :: wr) G s s' → IsSetS w s'.heap S (metT val n) → R (.ok (.ret .none)) s') →
      codeAny (model prog w) A (.builtin "set.update.loop" ⟨[.ref S, .ref I], []⟩) R s := by
  have nw : S ∉ wr := fun q => out (W.sub _ q)
  have up : ∀ b ∈ wr, b ∈ S :: wr := fun b q => List.mem_cons_of_mem _ q
  intro k
  induction k with
  | zero =>
    intro i s hk hi st hS hR
    obtain rfl : i = n := by omega
    refine codeAny_builtin PyProof.Rows.F.entry_set_update_loop ?_
    rw [Around.under_plainId PyProof.Rows.F.plain_set_update_loop _]
    show wpAny _ A.in1 (pyNext (.ref I) >>= _) _ _ s
    refine wpAny_bind (W.done s _ _ st fun s' hm => ?_)
    show wpAny _ A.in1 (ret Value.none) _ _ s'
    exact wpAny_pure (hR s' (hm.mono up) (hS.keep fun o q => hm.heap S _ nw q))
  | succ k ih =>
    intro i s hk hi st hS hR
    have lt : i < n := by omega
    refine codeAny_builtin PyProof.Rows.F.entry_set_update_loop ?_
    rw [Around.under_plainId PyProof.Rows.F.plain_set_update_loop _]
    show wpAny _ A.in1 (pyNext (.ref I) >>= _) _ _ s
    refine wpAny_bind (W.item i s _ _ lt st fun v s' hP st' hm => ?_)
    obtain ⟨t, rfl⟩ := isv i v hP
    have hS' : IsSetS w s'.heap S (metT val i) := hS.keep fun o q => hm.heap S _ nw q
    show wpAny _ A.in1 (holding [Value.str (val i) t] (setAdd S (.str (val i) t)) >>= _) _ _ s'
    refine wpAny_bind (wpAny_holding ?_)
    unfold setAdd
    refine wpAny_holding (wpAny_bind ((PySem.strKind prog w).pyHash (k := val i) (strKind_is _ _ _ _) ?_))
    have len := metT_len val i
    refine setS_put (P := prog) (s := { s' with toks := s'.toks + 1 }) hS' (by omega) fun b h' sb hS2 => ?_
    refine wpAny_pure ⟨plainId_quiet PyProof.Rows.F.plain_set_update_loop _, ih (i + 1) _ (by omega) lt (W.frame _ s' _ _ st' (Nat.le_succ _) fun c hc o e => ?_) hS2 fun s'' hm'' hS'' => ?_⟩
    · rw [sb.2 c (fun q => out (q ▸ hc))]
      exact e
    · refine hR s'' (Moved.trans W.gtrans ((hm.mono up).then_heap (Nat.le_succ _) fun c o hc e => ?_) hm'') hS''
      rw [sb.2 c (fun q => hc (q ▸ List.mem_cons_self))]
      exact e
end
/-- a set as it is made -/
def newSetO (w : World) : Obj := { cls := .type "set", dict := none, data := .set #[] 0 (.fresh 0 0 (!w.params.followText "set-order")) }
theorem newSet_is {h : Heap} {a : Addr} (w : World) (e : h.get? a = some (newSetO w)) : IsSetS w h a [] := by
  refine ⟨_, #[], 0, _, e, ⟨rfl, rfl, rfl⟩, rfl, fun e he => ?_, ?_, List.nodup_nil, by decide, rfl, List.Pairwise.nil, ?_⟩
  · simp at he
  · exact List.Perm.refl _
  · show _ ∨ (!w.params.followText "set-order") = true
    cases w.params.followText "set-order"
    · exact .inr rfl
    · exact .inl rfl
theorem sub_str_set : isSubtype (.type "str") (.type "set") = pure false := by
  rw [isSubtype_type]
  kernel_rfl
theorem sub_str_frozenset : isSubtype (.type "str") (.type "frozenset") = pure false := by
  rw [isSubtype_type]
  kernel_rfl
section
variable {prog : Program} {w : World} {A : Around} {E : Value → Shared → Prop} {s : Shared}
theorem set_new_1 (a : Value) {Q₁ : Value → Shared → Prop} (k : Q₁ (.ref s.heap.objs.size) { s with heap := s.heap.push (newSetO w) }) :
    codeAny (model prog w) A (.call (.builtin "set.__new__") ⟨[.type "set", a], []⟩) (wants Q₁ E) s := by
  refine codeAny_of_tree ?_
  show wpAny _ A.in1 (do checkBuiltinCall "set.__new__" ⟨[.type "set", a], []⟩; again (.builtin "set.__new__" ⟨[.type "set", a], []⟩)) _ _ s
  refine wpAny_bind (wpAny_of_eq (PySem.F.newCall_set_1 a) (wpAny_pure ⟨plainId_quiet PySem.F.plain_set_new _, codeAny_builtin PySem.F.entry_set_new ?_⟩))
  rw [Around.under_plainId PySem.F.plain_set_new _]
  unfold Builtin.«set.__new__» Builtin.Frozenset.newClass
  have hsub := sub_set_self
  obtain ⟨hp, g, d, tk, os⟩ := s
  dsimp only
  wp_walk
  refine wpAny_askSetting (wpAny_pure ?_)
  dsimp only
  simp only [newObj]
  exact wpAny_bind (wpAny_alloc (wpAny_pure (wpAny_pure k)))
/-- set(v), by what set.__init__ does at the new set -/
theorem set_call {v : Value} {Q : Value → Shared → Prop} (calm : A.handled = none)
    (init : ∀ A₁ : Around, A₁.handled = none → wpAny (model prog w) A₁ (Builtin.«set.__init__» ⟨[.ref s.heap.objs.size, v], []⟩) (fun fin s' => fin = .done (.ret .none) ∧ Q (.ref s.heap.objs.size) s') (fun _ _ => False) { s with heap := s.heap.push (newSetO w) }) :
    wpAny (model prog w) A (call (.type "set") [v]) Q E s := by
  obtain ⟨c, tl, hmro⟩ := PySem.F.called_set.mro
  have hmade := PySem.F.called_set.made
  have hsub := PySem.F.called_set.sub
  refine wpAny_call (codeAny_of_tree ?_)
  show wpAny _ _ (callAny (.type "set") _) _ _ _
  refine wpAny_pure ⟨Code.quiet_builtin _ (by decide +kernel), codeAny_builtin PySem.F.entry_type_call ?_⟩
  rw [Around.under_plain (weight_type_call_type "set" [v] []) rfl]
  have h1 := PySem.F.called_set.notType
  have h2 := PySem.F.called_set.canCreate
  have hct := PySem.F.typeCall_set_1 v
  repeat (any_goals (first | assumption | wp_step))
  refine codeAny_mono (set_new_1 v (E := E) (Q₁ := fun obj s₁ => obj = .ref s.heap.objs.size ∧ s₁ = { s with heap := s.heap.push (newSetO w) }) ⟨rfl, rfl⟩) fun r s₁ hr => ?_
  cases r with
  | error e => exact hr
  | ok fl =>
    cases fl with
    | ret obj =>
      obtain ⟨rfl, rfl⟩ := hr
      have hT : Shared.TypeIs { s with heap := s.heap.push (newSetO w) } (.ref s.heap.objs.size) "set" := ⟨_, Heap.get?_push_size _ rfl, rfl⟩
      have hli := PySem.F.called_set.init.lookup
      have hbi := PySem.F.called_set.init.bind (.ref s.heap.objs.size)
      repeat (any_goals (first | assumption | wp_step))
      refine codeAny_mono (codeAny_call_builtin (R := wants (fun r s₂ => r = .none ∧ Q (.ref s.heap.objs.size) s₂) E) PySem.F.called_set.init.plain PySem.F.entry_set_init (check_set_init_1 hT ?_)) fun r₂ s₂ hr₂ => ?_
      · refine wpAny_mono (init _ (by simp [calm])) (fun fin s' h => ?_) (fun _ _ x => x.elim)
        obtain ⟨e, q⟩ := h
        subst e
        exact ⟨rfl, q⟩
      · cases r₂ with
        | error e => exact hr₂
        | ok fl₂ =>
          cases fl₂ with
          | ret r =>
            obtain ⟨rfl, hq⟩ := hr₂
            repeat (any_goals (first | assumption | wp_step))
          | _ => exact hr₂.elim
    | _ => exact hr.elim
/-- set(list of texts) -/
theorem set_listT {l : Addr} {items : List Value} {xs : List Str} {Q : Value → Shared → Prop} (calm : A.handled = none) (hl : s.heap.IsList l items.toArray) (isx : StrsAre items xs) (room : items.length + 1 < scanBound)
    (k : ∀ (h' : Heap) (tk : Nat) (ys : List Str), IsSetS w h' s.heap.objs.size ys → (∀ x, x ∈ ys ↔ x ∈ xs) → ys.length ≤ xs.length → (∀ b o, s.heap.get? b = some o → h'.get? b = some o) → Q (.ref s.heap.objs.size) { s with heap := h', toks := tk }) :
    wpAny (model prog w) A (call (.type "set") [.ref l]) Q E s := by
  refine set_call calm fun A₁ h1 => ?_
  obtain ⟨⟨ocls, odict, odata, oslots⟩, hol, hcl, nl, hdl⟩ := hl
  simp only at hcl hdl
  subst hcl
  subst hdl
  have lS : l < s.heap.objs.size := Heap.lt_size hol
  have hS : (s.heap.push (newSetO w)).get? s.heap.objs.size = some (newSetO w) := Heap.get?_push_size _ rfl
  have hol' : (s.heap.push (newSetO w)).get? l = some { cls := .type "list", dict := odict, data := .seq items.toArray nl, slots := oslots } := Heap.get?_push_of_some _ hol
  have hsls := PySem.F.sub_list_set
  have hslf := PySem.F.sub_list_frozenset
  have hne : (Value.type "list" == Value.type "dict") = false := by decide
  have hl1 : (s.heap.push (newSetO w)).IsList l items.toArray := ⟨_, hol', rfl, nl, rfl⟩
  have len := isx.length
  unfold Builtin.«set.__init__» noKeywords Builtin.Frozenset.updateFrom
  generalize hPI : pyIter = PI
  wp_walk
  subst hPI
  refine wpAny_pyIter_list hl1 ?_
  refine wpAny_bind (wpAny_runValue ?_)
  have h3 : A₁.in1.handled = none := by simp [h1]
  have neI : l ≠ (s.heap.push (newSetO w)).objs.size := by
    rw [Heap.size_push]
    exact Nat.ne_of_lt (Nat.lt_succ_of_lt lS)
  have out : s.heap.objs.size ∉ [(s.heap.push (newSetO w)).objs.size, l] := by
    rw [Heap.size_push]
    simp only [List.mem_cons, List.not_mem_nil, or_false, not_or]
    exact ⟨Nat.ne_of_lt (Nat.lt_succ_self _), Nat.ne_of_gt lS⟩
  have isv : ∀ (i : Nat) (v : Value), items.toArray[i]? = some v → ∃ t, v = .str ((fun i => xs.getD i Str.empty) i) t := fun i v hv => SS.strs_at isx i v (by rwa [List.getElem?_toArray] at hv)
  refine fill_set (A := A₁) ((Walks.list h3 _ l neI items.toArray).toS) s.heap.objs.size out (fun i => xs.getD i Str.empty) isv (by rw [List.size_toArray]; exact room) (items.toArray.size - 0) 0 { s with heap := (s.heap.push (newSetO w)).push { cls := .type "list_iterator", data := .fields #[.ref l, .int 0 0] } } (by omega) (Nat.zero_le _)
    ⟨⟨_, Heap.get?_push_size _ rfl, rfl, rfl⟩, (hl1.push _)⟩ ?hS0 ?hR
  case hS0 => exact newSet_is w (Heap.get?_push_of_some _ hS)
  case hR =>
    intro s' hm hS'
    obtain ⟨h', g', d', tk', os'⟩ := s'
    have eg : g' = s.gens := hm.gens
    have ed : d' = s.drawn := hm.drawn
    have eo : os' = s.os := hm.os
    subst eg
    subst ed
    subst eo
    refine wpAny_pure ?_
    refine wpAny_pure ⟨rfl, k h' tk' _ hS' (fun x => ?_) ?_ fun b o e => ?_⟩
    · rw [metT_mem, List.size_toArray, len]
      constructor
      · rintro ⟨i, hi, e⟩
        rw [← e]
        show xs.getD i Str.empty ∈ xs
        rw [List.getD_eq_getElem?_getD, List.getElem?_eq_getElem hi]
        exact List.getElem_mem hi
      · intro hx
        obtain ⟨i, hi, e⟩ := List.getElem_of_mem hx
        refine ⟨i, hi, ?_⟩
        show xs.getD i Str.empty = x
        rw [List.getD_eq_getElem?_getD, List.getElem?_eq_getElem hi]
        exact e
    · rw [← len, ← List.size_toArray]
      exact metT_len _ _
    · have lb := Heap.lt_size e
      refine hm.heap b o ?_ (Heap.get?_push_of_some _ (Heap.get?_push_of_some _ e))
      rw [Heap.size_push]
      simp only [List.mem_cons, List.not_mem_nil, or_false, not_or]
      exact ⟨Nat.ne_of_lt lb, Nat.ne_of_lt (Nat.lt_succ_of_lt lb)⟩
end
end K27R
/-! K27: set(text); set, sorted, len over the layer. -/
namespace K27R
open PySem PySem.Spec PyProof.Rows L2
section
variable {prog : Program} {w : World} {A : Around} {E : Value → Shared → Prop} {s : Shared}
/-- set(text) -/
theorem set_textT {z : Str} {t : Tok} {Q : Value → Shared → Prop} (calm : A.handled = none) (room : z.cps.size + 1 < scanBound)
    (k : ∀ (h' : Heap) (tk : Nat) (ys : List Str), IsSetS w h' s.heap.objs.size ys → (∀ x, x ∈ ys ↔ ∃ c ∈ z.cps.toList, x = ⟨#[c]⟩) → ys.length ≤ z.cps.size → (∀ b o, s.heap.get? b = some o → h'.get? b = some o) → Q (.ref s.heap.objs.size) { s with heap := h', toks := tk }) :
    wpAny (model prog w) A (call (.type "set") [.str z t]) Q E s := by
  refine set_call calm fun A₁ h1 => ?_
  have hS : (s.heap.push (newSetO w)).get? s.heap.objs.size = some (newSetO w) := Heap.get?_push_size _ rfl
  have hsls := sub_str_set
  have hslf := sub_str_frozenset
  have hne : (Value.type "str" == Value.type "dict") = false := by decide
  unfold Builtin.«set.__init__» noKeywords Builtin.Frozenset.updateFrom
  generalize hPI : pyIter = PI
  wp_walk
  subst hPI
  refine wpAny_pyIter_strU ?_
  refine wpAny_bind (wpAny_runValue ?_)
  have h3 : A₁.in1.handled = none := by simp [h1]
  have W : Walks prog w A₁.in1 (s.heap.push (newSetO w)).objs.size [(s.heap.push (newSetO w)).objs.size] [(s.heap.push (newSetO w)).objs.size] z.cps.size (SignAt z) (fun i h => h.IsStrIter (s.heap.push (newSetO w)).objs.size (strIterType z) z t i) := by
    unfold strIterType
    cases z.cps.all (· < 128)
    · exact Walks.strWide h3 _ z t
    · exact Walks.strAscii h3 _ z t
  have out : s.heap.objs.size ∉ [(s.heap.push (newSetO w)).objs.size] := by
    rw [Heap.size_push]
    simp only [List.mem_cons, List.not_mem_nil, or_false]
    exact Nat.ne_of_lt (Nat.lt_succ_self _)
  have isv : ∀ (i : Nat) (v : Value), SignAt z i v → ∃ t, v = .str ((fun i => (⟨#[z.cps.toList.getD i 0]⟩ : Str)) i) t := fun i v hv => by
    obtain ⟨c, u, hc, e⟩ := hv
    refine ⟨u, ?_⟩
    rw [e]
    show Value.str ⟨#[c]⟩ u = .str ⟨#[z.cps.toList.getD i 0]⟩ u
    rw [List.getD_eq_getElem?_getD, Array.getElem?_toList, hc]
    rfl
  refine fill_set (A := A₁) W.toS s.heap.objs.size out (fun i => (⟨#[z.cps.toList.getD i 0]⟩ : Str)) isv room (z.cps.size - 0) 0 { s with heap := (s.heap.push (newSetO w)).push { cls := .type (strIterType z), data := .fields #[.str z t, .int 0 0] } } (by omega) (Nat.zero_le _)
    ⟨_, Heap.get?_push_size _ rfl, rfl, rfl⟩ ?hS0 ?hR
  case hS0 => exact newSet_is w (Heap.get?_push_of_some _ hS)
  case hR =>
    intro s' hm hS'
    obtain ⟨h', g', d', tk', os'⟩ := s'
    have eg : g' = s.gens := hm.gens
    have ed : d' = s.drawn := hm.drawn
    have eo : os' = s.os := hm.os
    subst eg
    subst ed
    subst eo
    refine wpAny_pure ?_
    refine wpAny_pure ⟨rfl, k h' tk' _ hS' (fun x => ?_) (metT_len _ _) fun b o e => ?_⟩
    · rw [metT_mem]
      constructor
      · rintro ⟨i, hi, e⟩
        refine ⟨z.cps.toList.getD i 0, ?_, e.symm⟩
        rw [List.getD_eq_getElem?_getD, Array.getElem?_toList, Array.getElem?_eq_getElem hi]
        exact Array.getElem_mem_toList hi
      · rintro ⟨c, hc, e⟩
        obtain ⟨i, hi, e2⟩ := List.getElem_of_mem hc
        rw [Array.length_toList] at hi
        refine ⟨i, hi, ?_⟩
        show (⟨#[z.cps.toList.getD i 0]⟩ : Str) = x
        rw [e, List.getD_eq_getElem?_getD, List.getElem?_eq_getElem (by rw [Array.length_toList]; exact hi), e2]
        rfl
    · have lb := Heap.lt_size e
      refine hm.heap b o ?_ (Heap.get?_push_of_some _ (Heap.get?_push_of_some _ e))
      rw [Heap.size_push]
      simp only [List.mem_cons, List.not_mem_nil, or_false, not_or]
      exact ⟨Nat.ne_of_lt lb, Nat.ne_of_lt (Nat.lt_succ_of_lt lb)⟩
end
end K27R
/-! K27: sets of texts as tracked things; texts by their codes. -/
namespace K27R
open PySem PySem.Spec PyProof.Rows L2
/-- a text by its codes -/
abbrev S (l : List Nat) : Str := ⟨l.toArray⟩
abbrev cps (x : Str) : List Nat := x.cps.toList
theorem S_cps (x : Str) : S (cps x) = x := rfl
theorem cps_S (l : List Nat) : cps (S l) = l := rfl
theorem S_inj {a b : List Nat} (h : S a = S b) : a = b := by
  have := congrArg cps h
  rwa [cps_S, cps_S] at this
theorem S_len (a : List Nat) : (S a).length = a.length := List.size_toArray
theorem S_cat (a b : List Nat) : S a ++ S b = S (a ++ b) := by
  have : (S a ++ S b).cps.toList = a ++ b := by
    show ((S a).cps ++ (S b).cps).toList = a ++ b
    simp
  exact congrArg S this
theorem S_list (xs : List Str) : xs = (xs.map cps).map S := by
  rw [List.map_map]
  conv => lhs; rw [← List.map_id xs]
  rfl
/-- sorted, each once -/
def sortT (xs : List Str) : List Str := (K27.sdL (xs.map cps)).map S
theorem sortT_S (xs : List (List Nat)) : sortT (xs.map S) = (K27.sdL xs).map S := by
  unfold sortT
  rw [List.map_map]
  have : xs.map (cps ∘ S) = xs := by
    conv => rhs; rw [← List.map_id xs]
    rfl
  rw [this]
theorem sorted_pair : ∀ {ys : List Str}, sortedS ys = true → ys.Nodup → K27.AscG K27.ltL (ys.map cps)
  | [], _, _ => List.Pairwise.nil
  | [y], _, _ => List.pairwise_singleton _ _
  | y :: z :: r, h, hn => by
    have h0 : (!ltCps (cps z) (cps y) && risingS z r) = true := h
    rw [Bool.and_eq_true, Bool.not_eq_true', ltCps_eq] at h0
    have h1 : ¬ cps z < cps y := of_decide_eq_false h0.1
    obtain ⟨n1, n2⟩ := List.nodup_cons.mp hn
    have ih := sorted_pair (ys := z :: r) h0.2 n2
    have hyz : K27.ltL (cps y) (cps z) = true := by
      rcases K27.lex_tri (cps y) (cps z) (fun e => n1 (by
        have e2 : y = z := by rw [← S_cps y, ← S_cps z, e]
        rw [e2]
        exact List.mem_cons_self)) with q | q
      · exact decide_eq_true q
      · exact absurd q h1
    rw [List.map_cons]
    refine List.pairwise_cons.mpr ⟨fun x hx => ?_, ih⟩
    rw [List.map_cons] at hx ih
    rcases List.mem_cons.mp hx with e | hx
    · rw [e]
      exact hyz
    · exact K27.linL.tr _ _ _ hyz ((List.pairwise_cons.mp ih).1 x hx)
theorem sorted_is {ys xs : List Str} (h : sortedS ys = true) (hn : ys.Nodup) (hm : ∀ x, x ∈ ys ↔ x ∈ xs) : ys = sortT xs := by
  have e : ys.map cps = K27.sdL (xs.map cps) := by
    refine K27.asc_ext K27.linL (sorted_pair h hn) (K27.asc_sdG K27.linL _) fun c => ?_
    rw [K27.mem_sdG, List.mem_map, List.mem_map]
    constructor
    · rintro ⟨x, hx, e⟩
      exact ⟨x, (hm x).mp hx, e⟩
    · rintro ⟨x, hx, e⟩
      exact ⟨x, (hm x).mpr hx, e⟩
  rw [S_list ys, e]
  rfl
theorem sortT_congr {xs ys : List Str} (h : ∀ x, x ∈ xs ↔ x ∈ ys) : sortT xs = sortT ys := by
  unfold sortT
  congr 1
  refine K27.asc_ext K27.linL (K27.asc_sdG K27.linL _) (K27.asc_sdG K27.linL _) fun c => ?_
  rw [K27.mem_sdG, K27.mem_sdG, List.mem_map, List.mem_map]
  constructor
  · rintro ⟨x, hx, e⟩
    exact ⟨x, (h x).mp hx, e⟩
  · rintro ⟨x, hx, e⟩
    exact ⟨x, (h x).mpr hx, e⟩
theorem sortT_len (xs : List Str) : (sortT xs).length ≤ xs.length := by
  unfold sortT
  rw [List.length_map]
  have := K27.sdG_len (lt := K27.ltL) (xs.map cps)
  rwa [List.length_map] at this
theorem sortT_mem (xs : List Str) (x : Str) : x ∈ sortT xs ↔ x ∈ xs := by
  unfold sortT
  rw [List.mem_map]
  constructor
  · rintro ⟨c, hc, e⟩
    obtain ⟨y, hy, e2⟩ := List.mem_map.mp ((K27.mem_sdG c _).mp hc)
    rw [← e, ← e2]
    exact hy
  · intro h
    exact ⟨cps x, (K27.mem_sdG _ _).mpr (List.mem_map.mpr ⟨x, h, rfl⟩), rfl⟩
/-- the set of the texts xs at a -/
def SetT (w : World) (a : Addr) (xs : List Str) : HO := .ext fun h => IsSetS w h a xs
section
variable {X : Cx}
theorem setT_new {w : World} {P : Program} {H : Hp} {h : Heap} {a : Addr} {xs : List Str} (R : IsSetS w h a xs) : ObjOk P w H h a (SetT w a xs) :=
  ⟨R, let ⟨o, _, _, _, r⟩ := R; ⟨o, r.at_⟩, fun _ _ p k => p.keep k⟩
theorem setT_get {pins : List (Addr × Obj)} {σ : L2.St} {H : Hp} {s : Shared} {a : Addr} {xs : List Str} (I : L2.Inv X pins σ H s) (ha : H a = some (SetT X.w a xs)) : IsSetS X.w s.heap a xs := (I.hok a _ ha).1
/-- set(xs): a list of texts -/
def rSetL (X : Cx) : List V → Hp → VK → Prop := fun xs H Q => ∃ (l : Addr) (ys : List Str), xs = [.ref l] ∧ SqL X.K H l (ys.map V.str) ∧ ys.length + 1 < scanBound ∧
  ∀ p zs, H p = none → zs.Nodup → (∀ x, x ∈ zs ↔ x ∈ ys) → Q (.ref p) (upd H p (SetT X.w p zs))
theorem IsSetS.nd {w : World} {h : Heap} {a : Addr} {xs : List Str} (R : IsSetS w h a xs) : xs.Nodup := let ⟨_, _, _, _, r⟩ := R; r.nd
theorem call_setL (calm : X.calm = true) : CallR X (.type "set") (rSetL X) := by
  intro pins s σ H xs us Q I r h
  obtain ⟨l, ys, rfl, hl, hb, q⟩ := h
  obtain ⟨u, rfl, ru⟩ := vals1 r
  cases ru
  obtain ⟨its, rv, pl, _⟩ := I.list hl
  have len : its.length = ys.length := by
    have := rv.length
    rw [List.length_map] at this
    exact this.symm
  refine set_listT (I.ok.hd calm) pl.isList (strs_of_vals rv) (by omega) fun h' tk zs R hm _ k => ?_
  exact ⟨.ref s.heap.objs.size, _, I.laid k (Nat.le_refl _) (setT_new R), rfl, q _ zs (I.hok.fresh (Nat.le_refl _)) R.nd hm⟩
/-- set(text) -/
def rSetS (X : Cx) : List V → Hp → VK → Prop := fun xs H Q => ∃ z : Str, xs = [.str z] ∧ z.length + 1 < scanBound ∧
  ∀ p zs, H p = none → zs.Nodup → (∀ x, x ∈ zs ↔ x ∈ (cps z).map fun c => S [c]) → Q (.ref p) (upd H p (SetT X.w p zs))
theorem call_setS (calm : X.calm = true) : CallR X (.type "set") (rSetS X) := by
  intro pins s σ H xs us Q I r h
  obtain ⟨z, rfl, hb, q⟩ := h
  obtain ⟨u, rfl, ru⟩ := vals1 r
  obtain ⟨t, rfl⟩ := ru
  refine set_textT (I.ok.hd calm) hb fun h' tk zs R hm _ k => ?_
  refine ⟨.ref s.heap.objs.size, _, I.laid k (Nat.le_refl _) (setT_new R), rfl, q _ zs (I.hok.fresh (Nat.le_refl _)) R.nd fun x => ?_⟩
  rw [hm, List.mem_map]
  constructor
  · rintro ⟨c, hc, e⟩
    exact ⟨c, hc, e.symm⟩
  · rintro ⟨c, hc, e⟩
    exact ⟨c, hc, e.symm⟩
/-- len(set) -/
theorem call_lenT : CallR X (.builtin "len") (fun xs H Q => ∃ (a : Addr) (zs : List Str), xs = [.ref a] ∧ H a = some (SetT X.w a zs) ∧ Q (.int (zs.length : Nat)) H) := by
  intro pins s σ H xs us Q I r h
  obtain ⟨a, zs, rfl, ha, q⟩ := h
  obtain ⟨u, rfl, ru⟩ := vals1 r
  cases ru
  obtain ⟨o, es, ep, t, R⟩ := setT_get I ha
  have len : es.size = zs.length := by
    have := R.perm.length_eq
    rwa [List.length_map, Array.length_toList] at this
  have few := R.few
  have sb : scanBound = 4096 := rfl
  have q2 : EP X pins σ Q (.int (es.size : Int) (s.toks + 1)) { s with toks := s.toks + 1 + 1 } := by
    rw [len]
    exact ⟨.int (zs.length : Nat), H, I.tok _, ⟨_, rfl⟩, q⟩
  exact call_len_set R.at_ R.ex R.dat R.fits (by omega) q2
theorem strs_txt : ∀ l : List Value, (∀ v ∈ l, ∃ x tk, v = Value.str x tk) → ∃ xs : List Str, StrsAre l xs ∧ xs = l.map fun v => match v with | .str x _ => x | _ => Str.empty
  | [], _ => ⟨[], .nil, rfl⟩
  | v :: l, h => by
    obtain ⟨x, tk, rfl⟩ := h v List.mem_cons_self
    obtain ⟨xs, a, b⟩ := strs_txt l fun u hu => h u (List.mem_cons_of_mem _ hu)
    exact ⟨x :: xs, .cons x tk a, by rw [List.map_cons, ← b]⟩
/-- sorted(set) -/
theorem call_sortedT (calm : X.calm = true) : CallR X (.builtin "sorted") (fun xs H Q => ∃ (a : Addr) (zs : List Str), xs = [.ref a] ∧ H a = some (SetT X.w a zs) ∧ ∀ p, H p = none → Q (.ref p) (upd H p (.lst ((sortT zs).map V.str)))) := by
  intro pins s σ H xs us Q I r h
  obtain ⟨a, zs, rfl, ha, q⟩ := h
  obtain ⟨u, rfl, ru⟩ := vals1 r
  cases ru
  obtain ⟨o, es, ep, t, R⟩ := setT_get I ha
  have sb : scanBound = 4096 := rfl
  have few := R.few
  refine Calls.call_function_entry kind_sorted plain_sorted entry_sorted (args_sorted1 _) ?_
  unfold Builtin.«sorted»
  refine wpAny_bind (m := checkCount "sorted" 1 1 _) (wpAny_pure ?_)
  refine wpAny_bind (collect_set (A := X.A.in1) (by simp [I.ok.hd calm]) ⟨o, R.at_, R.ex.1, R.dat⟩ R.fits R.few R.ris R.led fun s1 vs k1 hz g1 o1 pm => ?_)
  have hvl : vs.length = es.size := by rw [pm.length_eq, List.length_map, Array.length_toList]
  obtain ⟨ss, isS, ess⟩ := strs_txt vs fun v hv => by
    obtain ⟨e, he, q⟩ := List.mem_map.mp (pm.mem_iff.mp hv)
    obtain ⟨x, tk, e1, _⟩ := R.good e he
    exact ⟨x, tk, by rw [← q]; exact e1⟩
  have pmS : ss.Perm zs := by
    rw [ess]
    have q := pm.map (fun v => match v with | Value.str x _ => x | _ => Str.empty)
    rw [List.map_map] at q
    exact q.trans R.perm
  have szl : sizeLine = 16777216 := by rw [sizeLine_eq]
  refine wpAny_bind (wpAny_newList ?_ (by omega))
  have hoL : (s1.heap.push (seqObj "list" vs.toArray 0)).get? s1.heap.objs.size = some (seqObj "list" vs.toArray 0) := Heap.get?_push_size _ rfl
  refine wpAny_bind (wpAny_holding (wpAny_call_entry slot_list_sort ⟨_, hoL, rfl⟩ entry_list_sort
    (list_sort_treeKAny strKind_oneLt hoL isS.keysOf (fun v₁ v₂ rest e => keyKind_strs (by rw [← e]; exact isS)) (by omega) fun st' a1 a2 => ⟨_, rfl, ?_⟩) (args_list_sort _)))
  obtain ⟨ys, b1, b2, b3⟩ := sorted_out_str isS a1 a2
  obtain ⟨c, hc⟩ := sortedHeap_at (vs := vs) (out := (arrOf st').map (·.2)) hoL
  have ey : ys = sortT zs := sorted_is b3 ((b2.trans pmS).nodup_iff.mpr R.nd) fun x => (b2.trans pmS).mem_iff
  have old : ∀ b ob, s.heap.get? b = some ob → (sortedHeap (s1.heap.push (seqObj "list" vs.toArray 0)) s1.heap.objs.size vs ((arrOf st').map (·.2))).get? b = some ob := fun b ob e => by
    have q1 := k1 b ob e
    have lt := Heap.lt_size q1
    rw [sortedHeap_old (Nat.ne_of_lt lt) (by rw [size_push']; exact Nat.lt_succ_of_lt lt)]
    exact Heap.get?_push_of_some _ q1
  have fresh : H s1.heap.objs.size = none := I.hok.fresh hz
  have len : (ys.map V.str).length ≤ sizeLine := by
    rw [List.length_map, b2.length_eq, ← isS.length]
    omega
  obtain ⟨hp1, gs1, dr1, tk1, os1⟩ := s1
  have J : L2.Inv X pins σ (upd H hp1.objs.size (.lst (ys.map V.str))) { s with heap := sortedHeap (hp1.push (seqObj "list" vs.toArray 0)) hp1.objs.size vs ((arrOf st').map (·.2)), gens := gs1, drawn := dr1, toks := tk1 } :=
    I.call (ch := []) (Un.laid old hz fresh) (I.hok.laid old hz ⟨len, ((arrOf st').map (·.2)).toList, c, vals_of_strs b1, by rw [Array.toArray_toList]; exact hc⟩) (by
      have e : gs1 = s.gens := g1
      rw [e]
      exact I.bare) (fun _ z => nomatch z)
  have eo : os1 = s.os := o1
  subst eo
  refine wpAny_pure ⟨_, rfl, .ref hp1.objs.size, _, J, rfl, ?_⟩
  rw [ey]
  exact q _ fresh
end
end K27R
/-! K27: repr of data where nothing is being shown; the law called from where nothing is. -/
namespace K27R
open PySem PySem.Spec PyProof.Rows L2
section
variable {X : Cx}
theorem call_reprD (shows : X.A.guards = some []) : CallR X (.builtin "repr") (fun xs H Q => ∃ a d, xs = [.ref a] ∧ Dp X.K H (.ref a) d ∧ d.showable = true ∧ d.hasDict = false ∧ d.shown.length ≤ sizeLine ∧ X.A.units + (d.depth + 1) < cLine ∧ Q (.str d.shown) H) := by
  intro pins s σ H xs us Q I r h
  obtain ⟨a, d, rfl, hd, h1, h2, h3, h4, q⟩ := h
  obtain ⟨u, rfl, ru⟩ := vals1 r
  cases ru
  obtain ⟨as, rd⟩ := Dp.reads I d _ _ hd rfl
  refine repr_of_reads' rd h1 (PyData.noDict_hsm h2) shows h4 (fun _ _ e => e) (fun h' u tk k => ?_) h3
  exact ⟨.str d.shown, H, I.kept k, ⟨_, rfl⟩, q⟩
end
/-- a def that keeps its promise where it is called in A -/
def KeepsAt (P : Program) (w : World) (K : PySem.W.Frag) (mg : Str → Option Value) (base : Heap) (A : Around) (f : Addr) (fd : FuncData) (ps : List Str) (sp : Sp) : Prop :=
  ∀ (outer : List Env) (s : Shared) (H : Hp) (args : Args) (us : List Value) (vs : List V) (Q : VK) (E : XK), Env0 P w K mg base A outer s H → BindsTo s fd args (ps.zip us) → Vals vs us → sp vs H Q E →
    codeAny (model P w) A (.call (.ref f) args) (CR CX0 outer P w H s Q E) s
section
variable {P : Program} {w : World} {K : PySem.W.Frag} {mg : Str → Option Value} {base : Heap} {A : Around} {x qual : Str} {pa : Arguments} {body : List Stmt} {sc : Scope} {dvs : List V} {kws : List (Str × V)} {f : Addr} {fd : FuncData}
theorem keepsAt {N ps : List Str} {k : Nat} {sp : Sp} (F : FunD K x qual pa body sc dvs kws f fd) (C : FnScope N ps sc) (room : Room (k + 1) A) (len : ∀ vs H Q E, sp vs H Q E → vs.length = ps.length)
    (walk : ∀ (cdv : Value) (outer : List Env) (s : Shared) (H : Hp) (vs : List V) (Q : VK) (E : XK), Room k (A.deeper (envOfC qual sc s.heap.objs.size f cdv)) → sp vs H Q E →
      ∃ t, PSs (cxOf CX0 P w K mg base N qual sc f cdv A outer s H E) body t ∧ t { nx := fun _ H' => Q .non H', rt := Q } (start N vs) H) : KeepsAt P w K mg base A f fd ps sp := by
  obtain ⟨oc, od, dV, kV, doc, pm, an, cdv, ct, osl, rfl, lk, cd, _, _⟩ := F.ex
  intro outer s H args us vs Q E e0 bind rel promise
  have old : ∀ b o, base.get? b = some o → s.heap.get? b = some o := fun b o e => (e0.bs b o e).1
  have KX : K.In s.heap := e0.mod.kin.keeps old
  refine codeAny_call_function room.depth (KX _ _ lk) rfl C.co C.gen rfl (PySem.W.codeRec_of KX cd) (bind _ _ _ _ ?_)
  refine wpAny_newFunctionEnv_cells C.kind (fun y hy => ?_) fun env he s1 inside => ?_
  · rcases C.par y.1 (List.of_mem_zip (show (y.1, y.2) ∈ ps.zip us from hy)).1 with q | q
    · exact .inl q
    · exact .inr ⟨q, PySem.W.cellsFrom_some _ _ _ (.inl q)⟩
  · subst he
    refine ⟨(e0.mod.nolimit.keeps old).keeps inside.toInCall.keep, codeAny_func ?_⟩
    obtain ⟨t, ht, hq⟩ := walk cdv outer s H vs Q E (room.deeper _) promise
    have I := inv_start (CX := CX0) (E := E) C room.hd e0 (len _ _ _ _ promise) rel inside
    refine wpAny_mono (ht.run [] s1 (start N vs) H _ I hq) (fun fl s' got => ?_) fun _ _ z => z
    cases fl with
    | ret u =>
      obtain ⟨v, σ', H', J, rv, q⟩ := got
      exact ⟨v, H', J.os, J.bare, J.base, J.hok, rv, q⟩
    | next =>
      obtain ⟨σ', H', J, q⟩ := got
      exact ⟨V.non, H', J.os, J.bare, J.base, J.hok, (show Value.none = Value.none from rfl), q⟩
    | brk =>
      obtain ⟨_, _, _, q⟩ := got
      exact q.elim
    | cont =>
      obtain ⟨_, _, _, q⟩ := got
      exact q.elim
/-- the law's own call -/
theorem law_at {mb : Str → Option Value} {fa a : Addr} {y : Str} {sp : Sp} {s₁ : Shared} {vs : List Value} {ns : List Int}
    (KX : K.In s₁.heap) (glob : s₁.heap.Ns mainGlobals mg) (blt : s₁.heap.Ns builtinsNs mb) (boot : ∀ x : Str, x ≠ "__name__" → mb x = bootBuiltins x) (lim : s₁.heap.NoLimit) (gens : s₁.gens = #[])
    (at_ : s₁.heap.get? a = some { cls := .type "list", data := .seq vs.toArray }) (areInts : IntsAre vs ns) (few : ns.length ≤ sizeLine)
    (F : ∀ base : Heap, K.In base → base.Ns mainGlobals mg → KeepsAt P w K mg base callerA fa fd [y] sp) (bind : ∀ (s : Shared) (u : Value), BindsTo s fd ⟨[u], []⟩ [(y, u)])
    (promise : ∀ H : Hp, SqL K H a (ns.map V.int) → sp [.ref a] H (fun v _ => v = .bl true) fun _ _ _ => False) :
    codeAny (model P w) callerA (.call (.ref fa) ⟨[.ref a], []⟩) (fun r s' => r = .ok (.ret (.bool true)) ∧ OldK s₁.heap s'.heap ∧ s'.os = s₁.os ∧ AllBare s'.gens) s₁ := by
  have rv : Vals (ns.map V.int) vs := vals_ints areInts
  -- the abstract heap: the script, unless the top itself holds it
  have run : ∀ H : Hp, SqL K H a (ns.map V.int) → HOk P w H s₁.heap → (∀ b u, H b = some u → b = a ∧ K.lookup a = none ∧ ∃ ob xs, u = .frz ob (.lst xs)) →
      codeAny (model P w) callerA (.call (.ref fa) ⟨[.ref a], []⟩) (fun r s' => r = .ok (.ret (.bool true)) ∧ OldK s₁.heap s'.heap ∧ s'.os = s₁.os ∧ AllBare s'.gens) s₁ := by
    intro H hS hok only
    have noDict : ∀ {b : Addr} {m : Str → Option Value}, s₁.heap.Ns b m → (hidT s₁.heap H).Ns b m := fun {b m} hb => by
      obtain ⟨o, es, ep, e, d, rest⟩ := hb
      refine ⟨o, es, ep, hidT_get e ?_, d, rest⟩
      cases q : H b with
      | none => rfl
      | some u =>
        obtain ⟨eb, _, _⟩ := only b u q
        rw [eb, at_] at e
        cases e
        cases d
    have inK : K.In (hidT s₁.heap H) := fun b o e => hidT_get (KX b o e) (by
      cases q : H b with
      | none => rfl
      | some u =>
        obtain ⟨eb, nk, _⟩ := only b u q
        rw [eb, nk] at e
        cases e)
    obtain ⟨ml, l1, l2⟩ := lim
    have M : Mod K mg (hidT s₁.heap H) := ⟨inK, noDict glob, ⟨mb, noDict blt, boot⟩, ⟨ml, noDict l1, l2⟩⟩
    have e0 : Env0 P w K mg (hidT s₁.heap H) callerA [] s₁ H :=
      ⟨rfl, M, fun _ _ e => of_hidT e, Nat.le_of_eq (hidT_size _ _), trivial, fun _ hb => (nomatch (show _ ∈ ([] : List Addr) from hb)), hok, .of_eq gens⟩
    refine codeAny_mono (F _ inK (noDict glob) [] s₁ H ⟨[.ref a], []⟩ [.ref a] [.ref a] _ _ e0 (bind s₁ (.ref a)) (.cons rfl .nil) (promise H hS)) fun r s' got => ?_
    match r, got with
    | .error e, got => exact (show False from got).elim
    | .ok .next, got => exact (show False from got).elim
    | .ok .brk, got => exact (show False from got).elim
    | .ok .cont, got => exact (show False from got).elim
    | .ok (.ret u), got =>
      obtain ⟨v, H', os, bare, un, hok', ru, q⟩ := got
      have ev : v = .bl true := q
      subst ev
      have eu : u = Value.bool true := ru
      subst eu
      refine ⟨rfl, OldK.of_keep fun b o e => ?_, os, bare⟩
      cases q : H b with
      | none => exact un.keep b o e q (fun z => nomatch (show b ∈ ([] : List Addr) from z)) (fun z => nomatch z)
      | some u =>
        obtain ⟨_, _, ob, xs, eu⟩ := only b u q
        rw [eu] at q
        obtain ⟨g1, _⟩ := hok b _ q
        obtain ⟨g2, _⟩ := hok' b _ (un.frzs b ob _ q)
        rw [e] at g1
        cases g1
        exact g2
  cases hk : K.lookup a with
  | some o =>
    have e := KX a o hk
    rw [at_] at e
    cases e
    refine run (fun _ => none) (.inr ⟨_, vs.toArray, _, hk, rfl, rfl, rfl, ?_, rv⟩) (fun _ _ z => nomatch z) fun _ _ z => nomatch z
    rw [List.size_toArray, areInts.length]
    exact few
  | none =>
    have here : ∀ b u, upd (fun _ => none) a (.frz { cls := .type "list", data := .seq vs.toArray } (.lst (ns.map V.int))) b = some u → b = a ∧ u = .frz { cls := .type "list", data := .seq vs.toArray } (.lst (ns.map V.int)) := fun b u z => by
      by_cases e : b = a
      · rw [e, upd_same] at z
        exact ⟨e, (Option.some.inj z).symm⟩
      · rw [upd_ne e] at z
        cases z
    refine run (upd (fun _ => none) a (.frz { cls := .type "list", data := .seq vs.toArray } (.lst (ns.map V.int)))) (.inl (.inr ⟨_, upd_same⟩)) (fun b u z => ?_) fun b u z => ?_
    · obtain ⟨rfl, rfl⟩ := here b u z
      exact ⟨at_, by rw [List.length_map]; exact few, vs, _, rv, at_⟩
    · obtain ⟨e1, e2⟩ := here b u z
      exact ⟨e1, hk, _, _, e2⟩
end
/-- the law, from the head's facts -/
theorem walk_at {l : PySem.W.OpenLaw} {n : Nat} {q : Program} {loose : List Str} {XP : (Str → Option Value) → Heap → Prop} {YP : World → Heap → Prop} {d : DefRec} {y : Str} (hn : l.most = some n) (hn2 : n ≤ sizeLine) (hdf : d.params.defaults = [])
    (F : ∀ (w : World) (mg : Str → Option Value) (fa : Addr) (h : Heap), YP w h → h.Ns mainGlobals mg → mg d.name = some (.ref fa) →
      ∃ (K : PySem.W.Frag) (fd : FuncData) (sp : Sp), K.In h ∧ (∀ (s : Shared) (u : Value), BindsTo s fd ⟨[u], []⟩ [(y, u)]) ∧
        (∀ (H : Hp) (a : Addr) (ns : List Int), ns.length ≤ n → SqL K H a (ns.map V.int) → sp [.ref a] H (fun v _ => v = .bl true) fun _ _ _ => False) ∧
        ∀ base : Heap, K.In base → base.Ns mainGlobals mg → KeepsAt l.prog w K mg base callerA fa fd [y] sp) :
    PySem.W.WalkO q loose XP YP l.row.toRowW d [] (fun f vs => PySem.call f vs) := by
  refine Att.attach_call hn hdf fun w s₀ s₁ mg mb fa o pm cd doc a vs ns G Y ho hd hcd hmg hobj hints hlen hg => ?_
  obtain ⟨K, fd, sp, KX, bind, promise, hF⟩ := F w mg fa _ Y G.T.g hmg
  exact law_at KX G.T.g G.T.b G.T.builtins G.T.nolimit hg hobj hints (Nat.le_trans hlen hn2) hF bind fun H hS => promise H a ns hlen hS
end K27R
/-! K27: the ground of the walks: the text's defs, what callers know of a def, texts by codes. -/
namespace K27W
open PySem PySem.Spec PyProof.Rows L2 K27R
/-- a statement of the top -/
def top (i : Nat) : Stmt := PySem.Challenge.pw_lookdepth_k27_whole_all_tops.main.body.getD i (.Pass ⟨0, 0, 0, 0⟩)
abbrev FnP (K : PySem.W.Frag) (x : Str) (i : Nat) (f : Addr) (fd : FuncData) : Prop := FunD K x x (defArgs (top i)) (defBody (top i)) (defScope (top i)) [] [] f fd
/-- the built-in names that the text uses, still their own -/
structure Free (mg : Str → Option Value) : Prop where
  len : mg "len" = none
  range : mg "range" = none
  sorted : mg "sorted" = none
  set : mg "set" = none
  list : mg "list" = none
  tuple : mg "tuple" = none
  int : mg "int" = none
  repr : mg "repr" = none
  any : mg "any" = none
  all : mg "all" = none
  zip : mg "zip" = none
/-- what a caller knows of the def called x -/
structure Cal (P : Program) (w : World) (K : PySem.W.Frag) (mg : Str → Option Value) (base : Heap) (k : Nat) (x : Str) (sp : Sp) : Prop where
  ex : ∃ (f : Addr) (fd : FuncData) (ps : List Str), FnOk P w K mg base CX0 k f fd ps sp ∧ mg x = some (.ref f) ∧ PySem.W.keepIn K (.ref f) = true ∧ Binds K fd ps []
section
variable {P : Program} {w : World} {K : PySem.W.Frag} {mg : Str → Option Value} {base : Heap}
theorem cal_of {x : Str} {i : Nat} {f : Addr} {fd : FuncData} {N ps : List Str} {k : Nat} {sp : Sp} (F : FnP K x i f fd) (hm : mg x = some (.ref f)) (C : FnScope N ps (defScope (top i)))
    (hb : ∀ (kV doc pm : Value) (an : Option Addr) (cdv ct : Value) (us : List Value), us.length = ps.length → bindArgs (PySem.W.fnOf x x (defArgs (top i)) (defBody (top i)) (defScope (top i)) .none kV doc pm an cdv ct) ⟨us, []⟩ = pure (ps.zip us))
    (len : ∀ vs H Q E, sp vs H Q E → vs.length = ps.length)
    (walk : ∀ (cdv : Value) (A : Around) (outer : List Env) (s : Shared) (H : Hp) (vs : List V) (Q : VK) (E : XK), Room k (A.deeper (envOfC x (defScope (top i)) s.heap.objs.size f cdv)) → sp vs H Q E →
      ∃ t, PSs (cxOf CX0 P w K mg base N x (defScope (top i)) f cdv A outer s H E).nox (defBody (top i)) t ∧ t { nx := fun _ H' => Q .non H', rt := Q } (start N vs) H) : Cal P w K mg base (k + 1) x sp :=
  ⟨f, fd, ps, F.ok C len (fun cdv A outer s H vs Q E hr h => let ⟨t, h1, h2⟩ := walk cdv A outer s H vs Q E hr h; ⟨t, PSs.nox h1, h2⟩), hm, F.kp, F.bindsN hb⟩
end
section
variable {X : Cx} {x : Str} {k j : Nat} {sp : Sp} {p pos : Pos} {e : Expr} {es : List Expr} {t : TA}
theorem pe_c (c : Cal X.prog X.w X.K X.mg X.base k x sp) (hr : Room j X.A) (hk : k ≤ j) (ha : PA X (e :: es) t) (hg : Gl X x := by rfl)
    (hdb : (x == ("__debug__" : Str)) = false := by decide) (he : starEach (e :: es) X.env = (false, eval e X.env) :: starEach es X.env := by rfl) (hpl : (backTo pos (starEach es X.env)).any (·.1) = false := by rfl) :
    PE X (.Call (.Name x p) (e :: es) [] pos) (tCall sp [] E0 t) := by
  obtain ⟨f, fd, ps, F, hm, kp, b⟩ := c.ex
  exact pe_call F (hr.mono hk) hg hm kp b .nil pass0 ha hdb he hpl
theorem pe_c0 (c : Cal X.prog X.w X.K X.mg X.base k x sp) (hr : Room j X.A) (hk : k ≤ j) (hg : Gl X x := by rfl) (hdb : (x == ("__debug__" : Str)) = false := by decide) :
    PE X (.Call (.Name x p) [] [] pos) (tCall sp [] E0 tNil) := by
  obtain ⟨f, fd, ps, F, hm, kp, b⟩ := c.ex
  exact pe_call0 F (hr.mono hk) hg hm kp b .nil pass0 hdb
end
/-- a text by its codes, as a value -/
abbrev vS (l : List Nat) : V := .str (S l)
/-- letters, each a text -/
abbrev ones (l : List Nat) : List V := l.map fun c => vS [c]
theorem same_upd {H : Hp} {p : Addr} {o : HO} (h : H p = none) : Same H (upd H p o) := fun b x e => by
  rw [upd_ne (ne_of_none e h)]
  exact e
theorem joinL_nil : ∀ l : List (List Nat), TL.joinL [] l = l.flatten
  | [] => rfl
  | [p] => by simp [TL.joinL]
  | p :: q :: r => by
    show p ++ ([] ++ TL.joinL [] (q :: r)) = (p :: q :: r).flatten
    rw [joinL_nil (q :: r)]
    simp
theorem join0 (l : List (List Nat)) : Txt.join (Str.ofString "") (l.map S) = S l.flatten := by
  have e : (Str.ofString "" : Str) = SX.S [] := by decide +kernel
  rw [e]
  have h := SX.join_S [] l
  rw [joinL_nil] at h
  exact h
theorem small4000 {n : Nat} (h : n ≤ 4000000) : n ≤ sizeLine := by
  rw [sizeLine_eq]
  omega
/-- what set(..) reads as texts: a text, or a list of texts -/
def Txts (K : PySem.W.Frag) (H : Hp) (v : V) (zs : List Str) : Prop := (∃ z, v = .str z ∧ zs = (cps z).map fun c => S [c]) ∨ ∃ a, v = .ref a ∧ SqL K H a (zs.map V.str)
theorem same_up2 {H H1 : Hp} {p q : Addr} {o o2 : HO} (h : Same H H1) (hp : H1 p = none) (hq : upd H1 p o q = none) : Same H (upd (upd H1 p o) q o2) := fun b x e => by
  have := same_upd (o := o2) hq b x (same_upd hp b x (h b x e))
  exact this
/-- a list or tuple of texts, joined with nothing between -/
theorem j0_go {K : PySem.W.Frag} {H : Hp} {p : Addr} {zs : List (List Nat)} {Q : VK} (h : SqL K H p (zs.map vS) ∨ SqT K H p (zs.map vS)) (hz : zs.flatten.length ≤ 16000000) (q : Q (vS zs.flatten) H) :
    ∃ a p2, ∃ ys : List Str, V.str (Str.ofString "") = .str a ∧ [V.ref p] = [.ref p2] ∧ (SqL K H p2 (ys.map V.str) ∨ SqT K H p2 (ys.map V.str)) ∧ (ys.map (·.length)).sum + ys.length * a.length ≤ 16777216 ∧ Q (.str (Txt.join a ys)) H := by
  refine ⟨_, p, zs.map S, rfl, rfl, ?_, ?_, ?_⟩
  · rw [List.map_map]
    exact h
  · have e1 : ((zs.map S).map (·.length)).sum = zs.flatten.length := by
      rw [List.map_map, List.length_flatten]
      rfl
    have e2 : (Str.ofString "" : Str).length = 0 := by decide +kernel
    rw [e1, e2]
    omega
  · rw [join0]
    exact q
theorem ones_S (z : List Nat) : (z.map fun c => S [c]).map V.str = (z.map fun c => [c]).map vS := by
  rw [List.map_map, List.map_map]
  rfl
section
variable {X : Cx} {e : Expr} {te : TE} {p p2 p3 p4 : Pos}
def rSort (X : Cx) : List V → Hp → VK → Prop := fun xs H Q => ∃ (a : Addr) (zs : List Str), xs = [.ref a] ∧ H a = some (SetT X.w a zs) ∧ ∀ p, H p = none → Q (.ref p) (upd H p (.lst ((sortT zs).map V.str)))
def rSet (X : Cx) : List V → Hp → VK → Prop := fun xs H Q => rSetS X xs H Q ∨ rSetL X xs H Q
/-- sorted(set(e)) -/
def tSS (X : Cx) (te : TE) : TE := fun σ H Q => te σ H fun v H1 => rSet X [v] H1 fun x H2 => rSort X [x] H2 Q
theorem pe_ss (B : Free X.mg) (calm : X.calm = true) (he : PE X e te) (g1 : Gl X "sorted" := by rfl) (g2 : Gl X "set" := by rfl)
    (h1 : starEach [.Call (.Name "set" p2) [e] [] p3] X.env = [(false, eval (.Call (.Name "set" p2) [e] [] p3) X.env)] := by rfl) (h2 : starEach [e] X.env = [(false, eval e X.env)] := by rfl) :
    PE X (.Call (.Name "sorted" p) [.Call (.Name "set" p2) [e] [] p3] [] p4) (tSS X te) := by
  have n1 : starEach [] X.env = [] := rfl
  have r := pe_callB (p := p) (pos := p4) (call_sortedT calm) g1 B.sorted PyProof.Rows.boot_sorted (pa_cons (pe_callTy (p := p2) (pos := p3) ((call_setS calm).or (call_setL calm)) g2 B.set PyProof.Rows.boot_set (pa_cons he pa_nil h2) (by decide) (by decide) (by rw [h2, n1]) (by rw [n1]; rfl)) pa_nil h1)
    (by decide) (by decide) (by rw [h1, n1]) (by rw [n1]; rfl)
  exact r
theorem ss_go {v : V} {H : Hp} {Q : VK} {zs : List Str} (t : Txts X.K H v zs) (hz : zs.length ≤ 4000) (q : ∀ q H2, Same H H2 → H q = none → H2 q = some (.lst ((sortT zs).map V.str)) → Q (.ref q) H2) :
    rSet X [v] H fun x H2 => rSort X [x] H2 Q := by
  have sb : scanBound = 4096 := rfl
  have fin : ∀ p ys, H p = none → (∀ x, x ∈ ys ↔ x ∈ zs) → rSort X [.ref p] (upd H p (SetT X.w p ys)) Q := fun p ys hp hm => by
    refine ⟨p, ys, rfl, upd_same, fun p2 hp2 => ?_⟩
    have same : Same H (upd (upd H p (SetT X.w p ys)) p2 (.lst ((sortT ys).map V.str))) := same_up2 (fun _ _ e => e) hp hp2
    refine q p2 _ same ?_ ?_
    · have ne : p2 ≠ p := fun e => by
        rw [e, upd_same] at hp2
        cases hp2
      rwa [upd_ne ne] at hp2
    · rw [upd_same, sortT_congr hm]
  rcases t with ⟨z, rfl, rfl⟩ | ⟨a, rfl, hs⟩
  · refine .inl ⟨z, rfl, ?_, fun p ys hp _ hm => fin p ys hp hm⟩
    have : z.length = (cps z).length := rfl
    rw [List.length_map] at hz
    omega
  · exact .inr ⟨a, zs, rfl, hs, by omega, fun p ys hp _ hm => fin p ys hp hm⟩
end
/-! ### lot_of -/
theorem sc_lot : FnScope ["labels"] ["labels"] (defScope (top 1)) := ⟨rfl, rfl, rfl, by decide +kernel, rfl, by decide +kernel, by decide +kernel⟩
def spLot (K : PySem.W.Frag) : Sp := fun vs H Q _ => ∃ (v : V) (z : List Nat), vs = [v] ∧ Txts K H v (z.map fun c => S [c]) ∧ z.length ≤ 4000 ∧ ∀ H', Same H H' → Q (vS (K27.sdN z)) H'
theorem sort_ones (z : List Nat) : sortT (z.map fun c => S [c]) = (K27.sdN z).map fun c => S [c] := by
  have e : (z.map fun c => S [c]) = (z.map fun c => [c]).map S := by
    rw [List.map_map]
    rfl
  rw [e, sortT_S, K27.sd_one, List.map_map]
  rfl
theorem join_ones (z : List Nat) : Txt.join (Str.ofString "") (z.map fun c => S [c]) = S z := by
  have e : (z.map fun c => S [c]) = (z.map fun c => [c]).map S := by
    rw [List.map_map]
    rfl
  rw [e, join0, K27.flatten_one]
section
variable {P : Program} {w : World} {K : PySem.W.Frag} {mg : Str → Option Value} {base : Heap}
theorem c_lot {f : Addr} {fd : FuncData} (F : FnP K "lot_of" 1 f fd) (hm : mg "lot_of" = some (.ref f)) (B : Free mg) : Cal P w K mg base 1 "lot_of" (spLot K) := by
  refine cal_of F hm sc_lot (fun _ _ _ _ _ _ us hl => match us, hl with | [_], _ => rfl) (fun vs H Q E h => ?_) (fun cdv A outer s H vs Q E hr h => ?_)
  · obtain ⟨v, z, rfl, _⟩ := h
    rfl
  · obtain ⟨v, z, rfl, hv, hz, q⟩ := h
    refine ⟨_, pss_one (ps_ret (pe_join pe_str (pe_ss B rfl (pv 0)))), ?_⟩
    refine ⟨⟨_, rfl⟩, _, rfl, ?_⟩
    refine ss_go (zs := z.map fun c => S [c]) hv (by rwa [List.length_map]) fun p H2 sm hp hl => ?_
    rw [sort_ones, ones_S] at hl
    have len : (K27.sdN z).length ≤ z.length := K27.sdG_len z
    refine j0_go (.inl (.inl (.inl hl))) ?_ ?_
    · rw [K27.flatten_one]
      omega
    · rw [K27.flatten_one]
      exact q _ sm
end
end K27W
/-! K27: rules told by K, and rules for joins and sorts in codes. -/
namespace K27W
open PySem PySem.Spec PyProof.Rows L2 K27R
section
variable {X : Cx} (K : PySem.W.Frag)
theorem pi_listK {tg l : Expr} {tl : TE} (hl : PE X l tl) (hK : X.K = K := by rfl) : PI X tg l (iList K tl) := by
  subst hK
  exact pi_list hl
theorem pi_tupK {tg l : Expr} {tl : TE} (hl : PE X l tl) (hK : X.K = K := by rfl) : PI X tg l (iTup K tl) := by
  subst hK
  exact pi_tup hl
theorem pi_zipxK {e e2 : Expr} {ta : TA} {p pos tpos : Pos} {elts : List Expr} {kk : Nat} (glob : Gl X "zip") (free : X.mg "zip" = none) (args : PA X [e, e2] ta)
    (hs : starEach [e, e2] X.env = (false, eval e X.env) :: starEach [e2] X.env := by rfl) (hpl : (backTo pos (starEach [e2] X.env)).any (·.1) = false := by rfl) (hK : X.K = K := by rfl) :
    PI X (.Tuple elts kk tpos) (.Call (.Name "zip" p) [e, e2] [] pos) (iZipx K ta) := by
  subst hK
  exact pi_zipx glob free args hs hpl
theorem ix_listK (hK : X.K = K := by rfl) : IxR X (rIxL K) := by
  subst hK
  exact ix_list
theorem ix_tupK (hK : X.K = K := by rfl) : IxR X (rIxT K) := by
  subst hK
  exact ix_tup
theorem sl_listK (hK : X.K = K := by rfl) : SlR X (rSlL K) := by
  subst hK
  exact sl_list
def rLen (K : PySem.W.Frag) : List V → Hp → VK → Prop := fun xs H Q => ∃ p ys, xs = [.ref p] ∧ (SqL K H p ys ∨ SqT K H p ys) ∧ Q (.int ys.length) H
theorem len_seqK (hK : X.K = K := by rfl) : CallR X (.builtin "len") (rLen K) := by
  subst hK
  exact call_len_seq
def rListOf (K : PySem.W.Frag) : List V → Hp → VK → Prop := fun xs H Q => ∃ p ys, xs = [.ref p] ∧ (SqL K H p ys ∨ SqT K H p ys) ∧ ∀ l, H l = none → Q (.ref l) (upd H l (.lst ys))
theorem list_ofK (hK : X.K = K := by rfl) : CallR X (.type "list") (rListOf K) := by
  subst hK
  exact call_list_of
def rTupleOf (K : PySem.W.Frag) : List V → Hp → VK → Prop := fun xs H Q => ∃ p ys, xs = [.ref p] ∧ ((SqL K H p ys ∧ ∀ l, H l = none → Q (.ref l) (upd H l (.tup ys))) ∨ (SqT K H p ys ∧ Q (.ref p) H))
theorem tuple_ofK (hK : X.K = K := by rfl) : CallR X (.type "tuple") (rTupleOf K) := by
  subst hK
  exact call_tuple_of
theorem anyK (hc : X.calm = true) (hK : X.K = K := by rfl) : CallR X (.builtin "any") (rAny K) := by
  subst hK
  exact cr_any hc
theorem allK (hc : X.calm = true) (hK : X.K = K := by rfl) : CallR X (.builtin "all") (rAll K) := by
  subst hK
  exact cr_all hc
theorem op_eqDK (hu : X.A.units + 64 < cLine) (hK : X.K = K := by rfl) : OpR X (compareOp .Eq) (rEqD K) := by
  subst hK
  exact op_eqD hu
theorem op_neDK (hu : X.A.units + 64 < cLine) (hK : X.K = K := by rfl) : OpR X (compareOp .NotEq) (rNeD K) := by
  subst hK
  exact op_neD hu
theorem op_inK (hK : X.K = K := by rfl) : OpR X (compareOp .In) (rIn K false) := by
  subst hK
  exact op_in_seq
theorem op_notInK (hK : X.K = K := by rfl) : OpR X (compareOp .NotIn) (rIn K true) := by
  subst hK
  exact op_notIn_seq
def rLtP (K : PySem.W.Frag) : R2 := fun v u H Q => ∃ a b n x m y, v = .ref a ∧ u = .ref b ∧ SqT K H a [.int n, .str x] ∧ SqT K H b [.int m, .str y] ∧ Q (.bl (pairLt n x m y)) H
theorem op_ltPK (room : X.A.units + 1 < cLine) (hK : X.K = K := by rfl) : OpR X (compareOp .Lt) (rLtP K) := by
  subst hK
  exact op_ltP room
theorem pe_revLK {e : Expr} {te : TE} {k : Nat} {p1 p2 p3 pos : Pos} (he : PE X e te) (hK : X.K = K := by rfl) : PE X (.Subscript e (.Slice none none (some (.UnaryOp .USub (.Constant (.int 1) k p1) p2)) p3) pos) (tRevL K te) := by
  subst hK
  exact pe_revL he
theorem pg_tupK {es : List Expr} {k : Nat} {t : TGs} {n : Nat} {pos : Pos} (hc : X.calm = true) (h : PGs X es t) (hn : (assignEach es X.env).length = n := by rfl) (hst : (assignEach es X.env).findIdx? (·.1) = none := by rfl) (hK : X.K = K := by rfl) :
    PG X (.Tuple es k pos) (gTup K n t) := by
  subst hK
  exact pg_tup hc h hn hst
def tStar (K : PySem.W.Frag) (te : TE) (t : TA) : TA := fun σ H Q => te σ H fun y H1 => ∃ a xs, y = .ref a ∧ SqT K H1 a xs ∧ t σ H1 fun ys H2 => Q (xs ++ ys) H2
theorem pa_starK {e : Expr} {es : List Expr} {te : TE} {t : TA} {sp : Pos} (he : PE X e te) (hr : PA X es t) (hK : X.K = K := by rfl) : PA X (.Starred e sp :: es) (tStar K te t) := by
  subst hK
  exact pa_star he hr
theorem pe_bmK {o e : Expr} {es : List Expr} {to : TE} {t : TA} {name : Str} {apos cpos : Pos} {T id : String} {r : V → List V → Hp → VK → Prop} (pa : PlainAttrs T) (slot : Slot T name id) (hty : typeOf (.builtin id) = pure (.type "method_descriptor")) (hm : MtR X id r) (ho : PE X o to) (ha : PA X (e :: es) t)
    (hbase : attributeBase o name X.env (eval o X.env) = eval o X.env := by rfl)
    (hfew : ((backTo cpos (starEach (e :: es) X.env)).all (fun x => !x.1) && (backToKw cpos (keywordEach [] X.env)).all (fun x => x.1.isSome)
      && decide ((e :: es).length + ([] : List Keyword).length + (if ([] : List Keyword).isEmpty then 0 else 1) < 30)) = true := by rfl)
    (hline : (apos.endLine == cpos.line) = true := by rfl) (hs : starEach (e :: es) X.env = (false, eval e X.env) :: starEach es X.env := by rfl) (hplain : (backTo cpos (starEach es X.env)).any (·.1) = false := by rfl) (hK : X.K = K := by rfl) :
    PE X (.Call (.Attribute o name apos) (e :: es) [] cpos) (tBM K T r to t) := by
  subst hK
  exact pe_bm pa slot hty hm ho ha hbase hfew hline hs hplain
/-- join, nothing between -/
def rJ0 (K : PySem.W.Frag) : V → List V → Hp → VK → Prop := fun x xs H Q => ∃ (p : Addr) (zs : List (List Nat)), x = .str (Str.ofString "") ∧ xs = [.ref p] ∧ (SqL K H p (zs.map vS) ∨ SqT K H p (zs.map vS)) ∧ zs.flatten.length ≤ 16000000 ∧ Q (vS zs.flatten) H
theorem mt_j0 (hK : X.K = K := by rfl) : MtR X "str.join" (rJ0 K) := by
  subst hK
  intro pins s σ H x xs v us Q I rx rs h
  obtain ⟨p, zs, rfl, rfl, hp, hz, q⟩ := h
  exact mt_join pins s σ H _ _ v us Q I rx rs (j0_go hp hz q)
theorem pe_j0 {e : Expr} {te : TE} {apos pos p1 : Pos} {k1 : Nat} (he : PE X e te) (hs : starEach [e] X.env = [(false, eval e X.env)] := by rfl) (hbase : attributeBase (.Constant (.str "") k1 p1) "join" X.env (eval (.Constant (.str "") k1 p1) X.env) = eval (.Constant (.str "") k1 p1) X.env := by rfl) (hline : (apos.endLine == pos.line) = true := by rfl) (hK : X.K = K := by rfl) :
    PE X (.Call (.Attribute (.Constant (.str "") k1 p1) "join" apos) [e] [] pos) (tM1 (rJ0 K) (tC (.str (Str.ofString ""))) te) :=
  pe_m1 PySem.F.slot_str_join PySem.F.type_str_join (mt_j0 K hK) pe_str he hs hbase hline
/-- sorted(a list of texts), any length -/
def rSortA (K : PySem.W.Frag) : List V → Hp → VK → Prop := fun xs H Q => ∃ (a : Addr) (zs : List (List Nat)), xs = [.ref a] ∧ SqL K H a (zs.map vS) ∧ ∀ p (ys : List (List Nat)), H p = none → ys.Perm zs → Q (.ref p) (upd H p (.lst (ys.map vS)))
end
theorem map_vS (zs : List (List Nat)) : zs.map vS = (zs.map S).map V.str := by
  rw [List.map_map]
  rfl
theorem perm_S {ys : List Str} {zs : List (List Nat)} (h : ys.Perm (zs.map S)) : ∃ ws : List (List Nat), ys = ws.map S ∧ ws.Perm zs := by
  refine ⟨ys.map cps, S_list ys, ?_⟩
  have := h.map cps
  rw [List.map_map] at this
  have e : (cps ∘ S) = id := rfl
  rwa [e, List.map_id] at this
theorem sortedA {X : Cx} : CallR X (.builtin "sorted") (rSortA X.K) := by
  intro pins s σ H xs us Q I r h
  obtain ⟨l, zs, rfl, hl, q⟩ := h
  obtain ⟨its, rv, pl, hz⟩ := I.list hl
  rw [Vals.ref1 r]
  have hlen0 := rv.length
  rw [List.length_map] at hlen0 hz
  rw [map_vS] at rv
  refine PyProof.Rows.sorted_strsAny pl.isList rv.strs (by omega) fun out ys h1 h2 h3 => ?_
  obtain ⟨ep, he'⟩ := PyProof.Rows.sortedAll_at s.heap its out
  obtain ⟨ws, rfl, pw⟩ := perm_S h2
  have hlen : ((ws.map S).map V.str).length ≤ sizeLine := by
    rw [List.length_map, List.length_map, pw.length_eq]
    omega
  have fr : H (s.heap.objs.size + 1) = none := I.hok.fresh (Nat.le_succ _)
  refine ⟨.ref _, upd H (s.heap.objs.size + 1) (.lst ((ws.map S).map V.str)), I.laid (t' := s.toks) (fun _ _ => PyProof.Rows.sortedAll_old) (Nat.le_succ _) ⟨hlen, out.toList, ep, vals_of_strs h1, he'⟩, rfl, ?_⟩
  rw [← map_vS]
  exact q _ ws fr pw
theorem sortedAK {X : Cx} (K : PySem.W.Frag) (hK : X.K = K := by rfl) : CallR X (.builtin "sorted") (rSortA K) := by
  subst hK
  exact sortedA
end K27W
/-! K27: comprehensions and for loops, told once. -/
namespace K27W
open PySem PySem.Spec PyProof.Rows L2 K27R
theorem same_f {H0 H : Hp} {D : Addr} {o : HO} (e : Same H0 H) (h : H0 D = none) : Same H0 (upd H D o) := fun b x hb => by
  rw [upd_ne (ne_of_none hb h)]
  exact e b x hb
theorem same_u {H0 H : Hp} {D : Addr} {o : HO} (e : Same H0 H) (h : H D = none) : Same H0 (upd H D o) := e.trans (same_upd h)
theorem none_of {H0 H : Hp} {D : Addr} (e : Same H0 H) (h : H D = none) : H0 D = none := e.free h
theorem same_seqT {K : PySem.W.Frag} {H H' : Hp} {a : Addr} {xs : List V} (e : Same H H') (h : SqT K H a xs) : SqT K H' a xs := by
  rcases h with (h | ⟨o, h⟩) | h
  · exact .inl (.inl (e a _ h))
  · exact .inl (.inr ⟨o, e a _ h⟩)
  · exact .inr h
theorem walk_it {J : It} {n : Nat} {G : Hp → Prop} {Y : Nat → Hp → V → Hp → Prop} (w : Walk J n G Y) {BODY : V → Hp → (Hp → Prop) → Prop} {H0 : Hp} {Qd : Hp → Prop} (Pv : Nat → Hp → Prop) (h0 : Pv 0 H0) (hG : ∀ i H, i ≤ n → Pv i H → G H)
    (hs : ∀ i x H H', i < n → Pv i H → Y i H x H' → BODY x H' (Pv (i + 1))) (hd : ∀ H, Pv n H → Qd H) :
    ∃ W : Nat → Nat → Hp → Prop, (∃ m, W 0 m H0) ∧ ∀ i m H, W i m H → (J.stop i H ∧ Qd H) ∨ (J.go i H ∧ ∃ Nx : Hp → Prop, (∀ H', Nx H' → ∃ m', m' < m ∧ W (i + 1) m' H') ∧ ∀ x H', J.yld i H x H' → BODY x H' Nx) := by
  refine ⟨fun i m H => m = n - i ∧ i ≤ n ∧ Pv i H, ⟨n, by simp, Nat.zero_le _, h0⟩, ?_⟩
  rintro i m H ⟨rfl, hi, p⟩
  have q := hG i H hi p
  by_cases hlt : i < n
  · refine .inr ⟨w.goes i H hlt q, Pv (i + 1), fun H' p' => ⟨n - (i + 1), by omega, rfl, hlt, p'⟩, fun x H' y => hs i x H H' hlt p (w.yields i H x H' hlt q y)⟩
  · have e : i = n := by omega
    subst e
    exact .inl ⟨w.stops H q, hd H p⟩
theorem take_fm {α β : Type} (f : α → Option β) (ls : List α) (i : Nat) (a : α) (h : ls[i]? = some a) : (ls.take (i + 1)).filterMap f = (ls.take i).filterMap f ++ (f a).toList := by
  rw [List.take_add_one, h, List.filterMap_append]
  cases e : f a <;> simp [e]
theorem take_fl {α β : Type} (f : α → List β) (ls : List α) (i : Nat) (a : α) (h : ls[i]? = some a) : (ls.take (i + 1)).flatMap f = (ls.take i).flatMap f ++ f a := by
  rw [List.take_add_one, h, List.flatMap_append]
  simp
theorem small24 {n : Nat} (h : n ≤ 16000000) : n < sizeLine := by
  rw [sizeLine_eq]
  omega
/-- a comprehension that gives texts, ints, bools: the items of ls by out -/
theorem lc_fl {α : Type} {J : It} {n : Nat} {G : Hp → Prop} {Y : Nat → Hp → V → Hp → Prop} (w : Walk J n G Y) {g : TG} {tt : TT} {te : TE} {vs : List Nat} {σ : L2.St} {H1 : Hp} {D : Addr} {Qd : Hp → Prop} (ls : List α) (out : α → Option V)
    (hl : ls.length = n) (hz : n ≤ 16000000) (hD : H1 D = none) (hG : ∀ H, Same H1 H → G H)
    (hs : ∀ i a x H H' (Qy : VK) (Qn : Hp → Prop), i < n → ls[i]? = some a → Same H1 H → H D ≠ none → Y i H x H' → (∀ y H4, out a = some y → Same H H4 → Qy y H4) → (∀ H3, out a = none → Same H H3 → Qn H3) →
      g x (wipe σ vs) H' fun σ2 H2 => wipe σ2 vs = wipe σ vs ∧ tt σ2 H2 fun b H3 => if b = true then te σ2 H3 Qy else Qn H3)
    (hd : ∀ H, Same H1 H → H D = some (.lst (ls.filterMap out)) → Qd H) :
    ∃ W : Nat → Nat → Hp → Prop, (∃ m, W 0 m (upd H1 D (.lst []))) ∧ ∀ i m H, W i m H →
      (J.stop i H ∧ Qd H) ∨ (J.go i H ∧ ∃ Nx : Hp → Prop, (∀ H', Nx H' → ∃ m', m' < m ∧ W (i + 1) m' H') ∧ ∀ x H', J.yld i H x H' → g x (wipe σ vs) H' fun σ2 H2 => wipe σ2 vs = wipe σ vs ∧ tt σ2 H2 fun b H3 =>
        if b = true then te σ2 H3 fun y H4 => ∃ acc, H4 D = some (.lst acc) ∧ acc.length < sizeLine ∧ Nx (upd H4 D (.lst (acc ++ [y]))) else Nx H3) := by
  refine walk_it w (fun i H => Same H1 H ∧ H D = some (.lst ((ls.take i).filterMap out))) ⟨same_upd hD, upd_same⟩ (fun i H _ p => hG H p.1) (fun i x H H' hi p y => ?_) fun H p => hd H p.1 (by
    have := p.2
    rwa [← hl, List.take_length] at this)
  obtain ⟨a, ha⟩ : ∃ a, ls[i]? = some a := ⟨ls[i]'(by omega), by simp [show i < ls.length by omega]⟩
  refine hs i a x H H' _ _ hi ha p.1 (by rw [p.2]; exact fun z => nomatch z) y (fun y H4 ho s4 => ?_) fun H3 ho s3 => ?_
  · refine ⟨_, s4 _ _ p.2, ?_, same_f (p.1.trans s4) hD, ?_⟩
    · have : ((ls.take i).filterMap out).length ≤ (ls.take i).length := List.length_filterMap_le _ _
      rw [List.length_take] at this
      exact small24 (by omega)
    · rw [upd_same, take_fm out ls i a ha, ho]
      rfl
  · refine ⟨p.1.trans s3, ?_⟩
    rw [s3 _ _ p.2, take_fm out ls i a ha, ho]
    simp
/-- the heap but for what lies at D -/
def But (D : Addr) (H H' : Hp) : Prop := ∀ b o, b ≠ D → H b = some o → H' b = some o
/-- as lc_fl, no test; what is given is known by P alone -/
theorem lc_rl {α : Type} {J : It} {n : Nat} {G : Hp → Prop} {Y : Nat → Hp → V → Hp → Prop} (w : Walk J n G Y) {g : TG} {te : TE} {vs : List Nat} {σ : L2.St} {H1 : Hp} {D : Addr} {Qd : Hp → Prop} (ls : List α) (P : α → V → Hp → Prop)
    (hl : ls.length = n) (hz : n ≤ 16000000) (hD : H1 D = none) (hG : ∀ H, Same H1 H → G H) (hP : ∀ a v H H', But D H H' → P a v H → P a v H')
    (hs : ∀ i a x H H' (Qy : VK), i < n → ls[i]? = some a → Same H1 H → H D ≠ none → Y i H x H' → (∀ y H4, P a y H4 → Same H H4 → Qy y H4) →
      g x (wipe σ vs) H' fun σ2 H2 => wipe σ2 vs = wipe σ vs ∧ te σ2 H2 Qy)
    (hd : ∀ H ys, Same H1 H → H D = some (.lst ys) → ys.length = ls.length → (∀ (i : Nat) a y, ls[i]? = some a → ys[i]? = some y → P a y H) → Qd H) :
    ∃ W : Nat → Nat → Hp → Prop, (∃ m, W 0 m (upd H1 D (.lst []))) ∧ ∀ i m H, W i m H →
      (J.stop i H ∧ Qd H) ∨ (J.go i H ∧ ∃ Nx : Hp → Prop, (∀ H', Nx H' → ∃ m', m' < m ∧ W (i + 1) m' H') ∧ ∀ x H', J.yld i H x H' → g x (wipe σ vs) H' fun σ2 H2 => wipe σ2 vs = wipe σ vs ∧ tYes σ2 H2 fun b H3 =>
        if b = true then te σ2 H3 fun y H4 => ∃ acc, H4 D = some (.lst acc) ∧ acc.length < sizeLine ∧ Nx (upd H4 D (.lst (acc ++ [y]))) else Nx H3) := by
  refine walk_it w (fun i H => Same H1 H ∧ ∃ ys, H D = some (.lst ys) ∧ ys.length = i ∧ (∀ (j : Nat) a y, ls[j]? = some a → ys[j]? = some y → P a y H)) ⟨same_upd hD, [], upd_same, rfl, fun j a y _ h => by simp at h⟩ (fun i H _ p => hG H p.1) (fun i x H H' hi p y => ?_) fun H p => ?_
  · obtain ⟨a, ha⟩ : ∃ a, ls[i]? = some a := ⟨ls[i]'(by omega), by simp [show i < ls.length by omega]⟩
    obtain ⟨p1, ys, hy, hyl, hp⟩ := p
    refine hs i a x H H' _ hi ha p1 (by rw [hy]; exact fun z => nomatch z) y fun y H4 py s4 => ?_
    have bt : But D H4 (upd H4 D (.lst (ys ++ [y]))) := fun b o hb e => by rwa [upd_ne hb]
    refine ⟨_, s4 _ _ hy, small24 (by omega), same_f (p1.trans s4) hD, _, upd_same, by simp [hyl], fun j a' y' h1 h2 => ?_⟩
    by_cases hj : j < ys.length
    · rw [List.getElem?_append_left hj] at h2
      exact hP _ _ _ _ bt (hP _ _ H H4 (fun b o _ e => s4 b o e) (hp j a' y' h1 h2))
    · have ej : j = ys.length := by
        have := List.getElem?_eq_some_iff.mp h2
        obtain ⟨hlt, _⟩ := this
        rw [List.length_append] at hlt
        simp at hlt
        omega
      subst ej
      rw [List.getElem?_append_right (Nat.le_refl _)] at h2
      simp at h2
      subst h2
      rw [hyl, ha] at h1
      cases h1
      exact hP _ _ _ _ bt py
  · obtain ⟨p1, ys, hy, hyl, hp⟩ := p
    exact hd H ys p1 hy (by omega) hp
end K27W
/-! K27: labels_in, orders_of. -/
namespace K27W
open PySem PySem.Spec PyProof.Rows L2 K27R
/-- the table -/
structure GridAt (K : PySem.W.Frag) (H : Hp) (a : Addr) (g : K27.Grid) : Prop where
  ex : ∃ r, SqT K H a [.int g.w, .ref r] ∧ SqT K H r (g.rows.map vS)
structure Good (g : K27.Grid) : Prop where
  ok : g.Ok
  most : g.rows.length ≤ 16
  low : ∀ r ∈ g.rows, ∀ c ∈ r, 97 ≤ c ∧ c ≤ 122
  some_ : g.rows ≠ []
theorem GridAt.same {K : PySem.W.Frag} {H H' : Hp} {a : Addr} {g : K27.Grid} (h : GridAt K H a g) (s : Same H H') : GridAt K H' a g :=
  let ⟨r, h1, h2⟩ := h.ex
  ⟨r, same_seqT s h1, same_seqT s h2⟩
theorem flat_most {n : Nat} : ∀ {l : List (List Nat)}, (∀ r ∈ l, r.length ≤ n) → l.flatten.length ≤ l.length * n
  | [], _ => by simp
  | r :: l, h => by
    have h1 := h r List.mem_cons_self
    have h2 := flat_most (l := l) fun x hx => h x (List.mem_cons_of_mem _ hx)
    rw [List.flatten_cons, List.length_append, List.length_cons, Nat.succ_mul]
    omega
theorem Good.flat {g : K27.Grid} (h : Good g) : g.rows.flatten.length ≤ 64 := by
  have h1 := flat_most (n := 4) (l := g.rows) fun r hr => by
    have := h.ok.len r hr
    have := h.ok.w23
    omega
  have := h.most
  omega
/-! the walks of a row -/
def ext (r one : List Nat) : List (List Nat) := (K27.sdN r).filterMap fun c => if one.count c < r.count c then some (one ++ [c]) else none
def ordF (r : List Nat) : Nat → List (List Nat)
  | 0 => [[]]
  | i + 1 => (ordF r i).flatMap (ext r)
theorem mem_ordF (r : List Nat) : ∀ (i : Nat) (y : List Nat), y ∈ ordF r i ↔ y.length = i ∧ ∀ c, y.count c ≤ r.count c
  | 0, y => by
    constructor
    · intro h
      have : y = [] := by simpa [ordF] using h
      subst this
      exact ⟨rfl, fun c => Nat.zero_le _⟩
    · rintro ⟨h, _⟩
      have : y = [] := List.eq_nil_of_length_eq_zero h
      subst this
      exact List.mem_cons_self
  | i + 1, y => by
    show y ∈ (ordF r i).flatMap (ext r) ↔ _
    rw [List.mem_flatMap]
    constructor
    · rintro ⟨o, ho, hy⟩
      obtain ⟨l1, l2⟩ := (mem_ordF r i o).mp ho
      obtain ⟨c, hc, e⟩ := List.mem_filterMap.mp hy
      by_cases h : o.count c < r.count c
      · rw [if_pos h] at e
        cases e
        refine ⟨by rw [List.length_append, l1]; rfl, fun d => ?_⟩
        rw [List.count_append]
        by_cases hd : c = d
        · subst hd
          simp
          omega
        · have : ([c] : List Nat).count d = 0 := by
            rw [List.count_eq_zero]
            simp
            exact fun e => hd e.symm
          rw [this]
          exact l2 d
      · rw [if_neg h] at e
        cases e
    · rintro ⟨hl, hc⟩
      have hne : y ≠ [] := fun e => by
        rw [e] at hl
        cases hl
      have ey : y = y.dropLast ++ [y.getLast hne] := (List.dropLast_concat_getLast hne).symm
      have ct : ∀ d, y.count d = y.dropLast.count d + ([y.getLast hne] : List Nat).count d := fun d => by
        conv => lhs; rw [ey]
        rw [List.count_append]
      refine ⟨y.dropLast, (mem_ordF r i _).mpr ⟨by simp [hl], fun d => ?_⟩, ?_⟩
      · have := ct d
        have := hc d
        omega
      · have h1 := ct (y.getLast hne)
        have h2 := hc (y.getLast hne)
        have h3 : ([y.getLast hne] : List Nat).count (y.getLast hne) = 1 := by simp
        have h4 : y.getLast hne ∈ r := by
          rw [← List.count_pos_iff]
          omega
        refine List.mem_filterMap.mpr ⟨y.getLast hne, (K27.mem_sdG _ _).mpr h4, ?_⟩
        rw [if_pos (by omega), ← ey]
theorem perm_of_count : ∀ (y r : List Nat), y.length = r.length → (∀ c, y.count c ≤ r.count c) → y.Perm r
  | [], r, h, _ => by
    have : r = [] := List.eq_nil_of_length_eq_zero h.symm
    rw [this]
  | c :: y, r, h, hc => by
    have h0 := hc c
    have hm : c ∈ r := by
      rw [← List.count_pos_iff]
      rw [List.count_cons_self] at h0
      omega
    refine (List.Perm.cons c (perm_of_count y (r.erase c) ?_ fun d => ?_)).trans (List.perm_cons_erase hm).symm
    · rw [List.length_erase_of_mem hm]
      simp at h
      omega
    · have := hc d
      rw [List.count_cons] at this
      rw [List.count_erase]
      by_cases e : c = d
      · subst e
        simp at this ⊢
        omega
      · simp [e] at this ⊢
        exact this
theorem mem_ordF_all (r y : List Nat) : y ∈ ordF r r.length ↔ y.Perm r := by
  rw [mem_ordF]
  exact ⟨fun h => perm_of_count y r h.1 h.2, fun h => ⟨h.length_eq, fun c => Nat.le_of_eq (h.count_eq c)⟩⟩
theorem ext_len (r one : List Nat) (h : r.length ≤ 3) : (ext r one).length ≤ 3 := by
  have h1 : (ext r one).length ≤ (K27.sdN r).length := List.length_filterMap_le _ _
  have h2 : (K27.sdN r).length ≤ r.length := K27.sdG_len r
  omega
theorem flatMap_len {α β : Type} {f : α → List β} {n : Nat} : ∀ {l : List α}, (∀ a ∈ l, (f a).length ≤ n) → (l.flatMap f).length ≤ l.length * n
  | [], _ => by simp
  | a :: l, h => by
    have h1 := h a List.mem_cons_self
    have h2 := flatMap_len (l := l) fun x hx => h x (List.mem_cons_of_mem _ hx)
    rw [List.flatMap_cons, List.length_append, List.length_cons, Nat.succ_mul]
    omega
theorem ordF_len (r : List Nat) (h : r.length ≤ 3) : ∀ i, (ordF r i).length ≤ 3 ^ i
  | 0 => Nat.le_refl _
  | i + 1 => by
    have h1 := ordF_len r h i
    have h2 := flatMap_len (f := ext r) (n := 3) (l := ordF r i) fun a _ => ext_len r a h
    show ((ordF r i).flatMap (ext r)).length ≤ _
    rw [Nat.pow_succ]
    omega
theorem ordF_27 (r : List Nat) (h : r.length ≤ 3) : ∀ i, i ≤ r.length → (ordF r i).length ≤ 27 := fun i hi => by
  have h1 := ordF_len r h i
  have h2 : 3 ^ i ≤ 3 ^ 3 := Nat.pow_le_pow_right (by decide) (by omega)
  have h3 : 3 ^ 3 = 27 := rfl
  omega
theorem cnt_count (c : Nat) : ∀ l : List Nat, PyProof.Rows.cnt c l = (l.count c : Nat)
  | [] => rfl
  | n :: l => by
    rw [PyProof.Rows.cnt_cons, cnt_count c l, List.count_cons]
    by_cases h : n = c <;> simp [h]
    omega
theorem count_S (l : List Nat) (c : Nat) : Txt.count (S l) (S [c]) = (l.count c : Nat) := by
  have h : Txt.count (S l) ⟨#[c]⟩ = PyProof.Rows.cnt c l := PyProof.Rows.count_is (S l) c
  rw [← cnt_count]
  exact h
theorem map_take {α β : Type} (f : α → β) (l : List α) (i : Nat) (x : β) (h : (l.map f)[i]? = some x) : ∃ a, l[i]? = some a ∧ x = f a := by
  rw [List.getElem?_map] at h
  cases e : l[i]? with
  | none => rw [e] at h; cases h
  | some a => rw [e] at h; exact ⟨a, rfl, (Option.some.inj h).symm⟩
abbrev nlabels_in : List Str := ["table"]
theorem sclabels_in : FnScope nlabels_in ["table"] (defScope (top 3)) := ⟨rfl, rfl, rfl, by decide +kernel, rfl, by decide +kernel, by decide +kernel⟩
def spLab (K : PySem.W.Frag) : Sp := fun vs H Q _ => ∃ (a : Addr) (g : K27.Grid), vs = [.ref a] ∧ GridAt K H a g ∧ Good g ∧ ∀ H', Same H H' → Q (vS g.let_) H'
abbrev norders_of : List Str := ["labels", "found", "lap", "one", "late"]
theorem scorders_of : FnScope norders_of ["labels"] (defScope (top 4)) := ⟨rfl, rfl, rfl, by decide +kernel, rfl, by decide +kernel, by decide +kernel⟩
def spOrd : Sp := fun vs H Q _ => ∃ r : List Nat, vs = [vS r] ∧ r.length ≤ 3 ∧ ∀ H' p, Same H H' → H p = none → H' p = some (.lst ((ordF r r.length).map vS)) → Q (.ref p) H'
section
variable {P : Program} {w : World} {K : PySem.W.Frag} {mg : Str → Option Value} {base : Heap}
theorem c_labels_in {f : Addr} {fd : FuncData} (F : FnP K "labels_in" 3 f fd) (hm : mg "labels_in" = some (.ref f)) (C_lot_of : Cal P w K mg base 1 "lot_of" (spLot K)) : Cal P w K mg base 2 "labels_in" (spLab K) := by
  refine cal_of F hm sclabels_in (fun _ _ _ _ _ _ us hl => match us, hl with | [_], _ => rfl) (fun vs H Q E h => ?_) (fun cdv A outer s H vs Q E hr h => ?_)
  · obtain ⟨a, g, rfl, _⟩ := h
    rfl
  · obtain ⟨a, g, rfl, hg, ok, q⟩ := h
    obtain ⟨r, h1, h2⟩ := hg.ex
    have nd := sclabels_in.nd
    have hu := hu_of hr
    refine ⟨_, pss_one (ps_ret (pe_c C_lot_of hr (by decide) (pa_cons (pe_j0 K (pe_ix (ix_tupK K) (pv 0) pe_int (fun _ _ => rfl))) pa_nil))), ?_⟩
    have fl := ok.flat
    refine ⟨⟨_, rfl⟩, _, rfl, _, _, _, _, rfl, rfl, h1, rfl, r, g.rows, rfl, rfl, .inr h2, by omega, ?_⟩
    exact ⟨_, g.rows.flatten, rfl, .inl ⟨_, rfl, rfl⟩, by omega, q⟩
theorem c_orders_of {f : Addr} {fd : FuncData} (F : FnP K "orders_of" 4 f fd) (hm : mg "orders_of" = some (.ref f)) (C_lot_of : Cal P w K mg base 1 "lot_of" (spLot K)) : Cal P w K mg base 2 "orders_of" spOrd := by
  refine cal_of F hm scorders_of (fun _ _ _ _ _ _ us hl => match us, hl with | [_], _ => rfl) (fun vs H Q E h => ?_) (fun cdv A outer s H vs Q E hr h => ?_)
  · obtain ⟨r, rfl, _⟩ := h
    rfl
  · obtain ⟨r, rfl, hr3, q⟩ := h
    have nd := scorders_of.nd
    have hu := hu_of hr
    refine ⟨_, pss_cons (ps_set (i := 1) nd rfl (Or.inl rfl) (pe_lst (pa_cons pe_str pa_nil)))
      (pss_cons (ps_for PassesOwn.never rfl (pi_str (pv 0)) (pg_name (i := 2) nd rfl (Or.inl rfl)) (pss_one (ps_setLc2 (vs1 := [4]) (i := 1) (own := [("one", 3), ("late", 4)]) (by rfl) nd rfl rfl (sw_true rfl rfl rfl (by decide +kernel)) (pi_listK K (pv 1)) (blkOk_by (own := [("one", 3), ("late", 4)]) (N := norders_of) (sc := defScope (top 4)) (by decide +kernel)) (by decide) (fun _ _ _ _ _ => pg_name (i := 3) nd rfl (Or.inl rfl)) (fun _ _ _ _ _ => pts_nil) (fun _ _ _ _ _ => pi_str (pe_c C_lot_of hr (by decide) (pa_cons (pv 0) pa_nil))) (fun _ _ _ _ _ => pg_name (i := 4) nd rfl (Or.inl rfl)) (fun _ _ _ _ _ => pts_one (pt_cmpR op_lt (pe_m1 PySem.F.slot_str_count PySem.F.type_str_count mt_count (pv 3) (pv 4)) (pe_m1 PySem.F.slot_str_count PySem.F.type_str_count mt_count (pv 0) (pv 4)) (nomark _))) (fun _ _ _ _ _ => pe_op op_add_str (pv 3) (pv 4)))))
      (pss_one (ps_ret (pv 1)))), ?_⟩
    refine ⟨by decide +kernel, fun l hl => ?_⟩
    refine ⟨_, rfl, S r, rfl, ?_⟩
    refine for_it walk_str (fun i σ H' => ∃ (p : Addr) (x : Option V), σ = [some (vS r), some (.ref p), x, none, none] ∧ Same H H' ∧ H p = none ∧ H' p = some (.lst ((ordF r i).map vS))) ⟨l, none, rfl, same_upd hl, hl, upd_same⟩ (fun _ _ _ _ _ => trivial) (fun i x σ H1 H' hi pv y => ?_) fun σ H' pv => ?_
    · obtain ⟨p, x0, rfl, sm, hp, hp'⟩ := pv
      obtain ⟨rfl, c, hc, rfl⟩ := y
      refine ⟨_, rfl, p, rfl, ⟨_, .inl (.inl hp')⟩, fun D hD => ?_⟩
      have hi3 : i < r.length := by simpa using hi
      have l27 := ordF_27 r hr3 i (by omega)
      refine walk_it (walk_list (xs := (ordF r i).map vS)) (fun j H2 => Same H' H2 ∧ H2 D = some (.lst ((((ordF r i).take j).flatMap (ext r)).map vS))) ⟨same_upd hD, upd_same⟩ (fun j H2 _ pv => pv.1.seq (.inl (.inl hp'))) (fun j x H2 H3 hj pv y => ?_) fun H2 pv => ?_
      · obtain ⟨rfl, hx⟩ := y
        obtain ⟨one, ho, rfl⟩ := map_take _ _ _ _ hx
        refine ⟨rfl, _, rfl, vS r, r, rfl, .inl ⟨_, rfl, rfl⟩, by omega, fun H4 s4 => ⟨S (K27.sdN r), rfl, ?_⟩⟩
        have jl : (((ordF r i).take j).flatMap (ext r)).length ≤ 27 * 3 := by
          have h1 := flatMap_len (f := ext r) (n := 3) (l := (ordF r i).take j) fun a _ => ext_len r a hr3
          rw [List.length_take] at h1
          have : min j (ordF r i).length ≤ 27 := by omega
          omega
        have e4 := s4 _ _ pv.2
        refine walk_it walk_str (fun k H5 => Same H' H5 ∧ H5 D = some (.lst ((((ordF r i).take j).flatMap (ext r) ++ ((K27.sdN r).take k).filterMap fun c => if one.count c < r.count c then some (one ++ [c]) else none).map vS))) ⟨pv.1.trans s4, by simpa using e4⟩ (fun _ _ _ _ => trivial) (fun k x H5 H6 hk pv y => ?_) fun H5 pv => ?_
        · obtain ⟨rfl, c, hc, rfl⟩ := y
          have hc' : (K27.sdN r)[k]? = some c := by simpa using hc
          have kl : (((K27.sdN r).take k).filterMap fun c => if one.count c < r.count c then some (one ++ [c]) else none).length ≤ 3 := by
            have h1 := List.length_filterMap_le (fun c => if one.count c < r.count c then some (one ++ [c]) else none) ((K27.sdN r).take k)
            have h2 : (K27.sdN r).length ≤ r.length := K27.sdG_len r
            rw [List.length_take] at h1
            omega
          refine ⟨rfl, _, rfl, ⟨_, rfl⟩, _, rfl, _, _, rfl, rfl, _, rfl, ⟨_, rfl⟩, _, rfl, _, _, rfl, rfl, _, _, rfl, rfl, _, rfl, ?_⟩
          have e1 : Txt.count (S one) ⟨#[c]⟩ = (one.count c : Nat) := count_S one c
          have e2 : Txt.count (S r) ⟨#[c]⟩ = (r.count c : Nat) := count_S r c
          rw [e1, e2]
          by_cases hlt : one.count c < r.count c
          · have hd : decide (((one.count c : Nat) : Int) < ((r.count c : Nat) : Int)) = true := decide_eq_true (by omega)
            rw [hd]
            refine iteT ?_
            have lo : one.length = i := ((mem_ordF r i one).mp (List.mem_of_getElem? ho)).1
            refine ⟨_, rfl, _, rfl, _, _, rfl, rfl, ?_, _, pv.2, ?_, same_f pv.1 hD, ?_⟩
            · have : (S one).length = one.length := S_len one
              have : (⟨#[c]⟩ : Str).length = 1 := rfl
              exact Nat.le_of_lt (small24 (by omega))
            · rw [List.length_map, List.length_append]
              exact small24 (by omega)
            · rw [upd_same, take_fm _ _ _ _ hc', if_pos hlt, ← List.append_assoc, List.map_append (l₁ := _ ++ _)]
              have e3 : S one ++ (⟨#[c]⟩ : Str) = S (one ++ [c]) := S_cat one [c]
              rw [e3]
              rfl
          · have hd : decide (((one.count c : Nat) : Int) < ((r.count c : Nat) : Int)) = false := decide_eq_false (by omega)
            rw [hd]
            refine iteF ⟨pv.1, ?_⟩
            rw [pv.2, take_fm _ _ _ _ hc', if_neg hlt]
            simp
        · refine ⟨pv.1, ?_⟩
          have e : (S (K27.sdN r)).cps.size = (K27.sdN r).length := S_len _
          rw [pv.2, take_fl _ _ _ _ ho, e, List.take_length]
          rfl
      · refine ⟨D, _, rfl, sm.trans pv.1, none_of sm hD, ?_⟩
        have e : (((ordF r i).map vS).length) = (ordF r i).length := List.length_map ..
        rw [pv.2, e, List.take_length]
        rfl
    · obtain ⟨p, x0, rfl, sm, hp, hp'⟩ := pv
      refine ⟨_, rfl, ?_⟩
      refine q H' p sm hp ?_
      have e : (S r).cps.size = r.length := S_len r
      rwa [e] at hp'
end
end K27W
/-! K27: orders_by. -/
namespace K27W
open PySem PySem.Spec PyProof.Rows L2 K27R
abbrev kT (l : List Nat) : Key := Sum.inr (S l)
theorem kT_inj {a b : List Nat} (h : kT a = kT b) : a = b := S_inj (Sum.inr.inj h)
theorem valV_some {κ : Type} [DecidableEq κ] {kvs : List (κ × V)} {k : κ} {v : V} (h : (k, v) ∈ kvs) : ∃ u, valV kvs k = some u := by
  have : (valV kvs k).isSome = true := by
    rw [← valV_any, List.any_eq_true]
    exact ⟨_, h, by simp⟩
  exact Option.isSome_iff_exists.mp this
/-- a dict from tops to lists of orders -/
structure WDk (D : Nat → Prop) (H : Hp) (d : Addr) (g : K27.Grid) (kvs : List (Key × V)) : Prop where
  hd : H d = some (.dK kvs)
  len : kvs.length ≤ 16
  ent : ∀ k v, valV kvs k = some v → ∃ (a : Nat) (p : Addr) (ys : List (List Nat)), k = kT [a] ∧ v = .ref p ∧ H p = some (.lst (ys.map vS)) ∧ ys.length ≤ 432 ∧ ∀ y, y ∈ ys ↔ g.Way a y
  dom : ∀ a, D a → ∃ v, valV kvs (kT [a]) = some v
theorem WDk.same {D : Nat → Prop} {H H' : Hp} {d : Addr} {g : K27.Grid} {kvs : List (Key × V)} (h : WDk D H d g kvs) (s : Same H H') : WDk D H' d g kvs :=
  ⟨s _ _ h.hd, h.len, fun k v e => let ⟨a, p, ys, h1, h2, h4, h5, h6⟩ := h.ent k v e; ⟨a, p, ys, h1, h2, s _ _ h4, h5, h6⟩, h.dom⟩
structure OB (H0 H : Hp) (d : Addr) (kvs : List (Key × V)) (R : List (List Nat)) : Prop where
  sm : Same H0 H
  d0 : H0 d = none
  hd : H d = some (.dK kvs)
  ent : ∀ k v, valV kvs k = some v → ∃ (a : Nat) (p : Addr) (ys : List (List Nat)), k = kT [a] ∧ v = .ref p ∧ H0 p = none ∧ H p = some (.lst (ys.map vS)) ∧ ys.length ≤ 27 * R.length ∧ ∀ y, y ∈ ys ↔ ∃ r, (a :: r) ∈ R ∧ y.Perm r
  cov : ∀ a r, (a :: r) ∈ R → ∃ v, valV kvs (kT [a]) = some v
  inj : ∀ k k' v, valV kvs k = some v → valV kvs k' = some v → k = k'
theorem OB.same {H0 H H' : Hp} {d : Addr} {kvs : List (Key × V)} {R : List (List Nat)} (h : OB H0 H d kvs R) (s : Same H H') : OB H0 H' d kvs R :=
  ⟨h.sm.trans s, h.d0, s _ _ h.hd, fun k v e => let ⟨a, p, ys, h1, h2, h3, h4, h5⟩ := h.ent k v e; ⟨a, p, ys, h1, h2, h3, s _ _ h4, h5⟩, h.cov, h.inj⟩
theorem OB.new {H0 H : Hp} {d z : Addr} {kvs : List (Key × V)} {R : List (List Nat)} {a : Nat} (h : OB H0 H d kvs R) (hn : valV kvs (kT [a]) = none) (hz : H z = some (.lst [])) (z0 : H0 z = none) (zn : ∀ k v, valV kvs k = some v → v ≠ .ref z) :
    OB H0 (upd H d (.dK (putK kvs (kT [a]) (.ref z)))) d (putK kvs (kT [a]) (.ref z)) R := by
  have dz : z ≠ d := fun e => by
    rw [e, h.hd] at hz
    cases hz
  refine ⟨same_f h.sm h.d0, h.d0, upd_same, fun k v e => ?_, fun b r hb => ?_, fun k k' v e e' => ?_⟩
  · rw [valV_put] at e
    by_cases hk : k = kT [a]
    · rw [if_pos hk] at e
      cases e
      refine ⟨a, z, [], hk, rfl, z0, by rw [upd_ne dz]; exact hz, Nat.zero_le _, fun y => ⟨fun x => absurd x (by simp), ?_⟩⟩
      rintro ⟨r, hr, _⟩
      obtain ⟨v, hv⟩ := h.cov a r hr
      rw [hn] at hv
      cases hv
    · rw [if_neg hk] at e
      obtain ⟨b, p, ys, h1, h2, h3, h4, h5⟩ := h.ent k v e
      have dp : p ≠ d := fun e => by
        rw [e, h.hd] at h4
        cases h4
      exact ⟨b, p, ys, h1, h2, h3, by rw [upd_ne dp]; exact h4, h5⟩
  · obtain ⟨v, hv⟩ := h.cov b r hb
    rw [valV_put]
    by_cases hk : kT [b] = kT [a]
    · rw [if_pos hk]
      exact ⟨_, rfl⟩
    · rw [if_neg hk]
      exact ⟨v, hv⟩
  · rw [valV_put] at e e'
    by_cases hk : k = kT [a]
    · by_cases hk' : k' = kT [a]
      · rw [hk, hk']
      · rw [if_pos hk] at e
        rw [if_neg hk'] at e'
        cases e
        exact absurd rfl (zn _ _ e')
    · by_cases hk' : k' = kT [a]
      · rw [if_neg hk] at e
        rw [if_pos hk'] at e'
        cases e'
        exact absurd rfl (zn _ _ e)
      · rw [if_neg hk] at e
        rw [if_neg hk'] at e'
        exact h.inj k k' v e e'
theorem OB.more {H0 H : Hp} {d p : Addr} {kvs : List (Key × V)} {R : List (List Nat)} {a : Nat} {r : List Nat} {ys ws : List (List Nat)} (h : OB H0 H d kvs R) (e : valV kvs (kT [a]) = some (.ref p)) (hp : H p = some (.lst (ys.map vS))) (hw : ws.length ≤ 27) (hm : ∀ y, y ∈ ws ↔ y.Perm r) :
    OB H0 (upd H p (.lst ((ys ++ ws).map vS))) d kvs (R ++ [a :: r]) := by
  have dp : d ≠ p := fun e => by
    rw [← e, h.hd] at hp
    cases hp
  obtain ⟨a', p', ys', h1, h2, h3, h4, h5, h6⟩ := h.ent _ _ e
  obtain rfl : a = a' := by
    have := kT_inj h1
    simpa using this
  cases h2
  obtain rfl : ys' = ys := by
    rw [hp] at h4
    have := HO.lst.inj (Option.some.inj h4)
    rw [map_vS, map_vS] at this
    have h7 := congrArg (List.map fun v => match v with | V.str x => cps x | _ => []) this
    simp [List.map_map, Function.comp_def, cps] at h7
    exact h7.symm
  refine ⟨same_f h.sm h3, h.d0, by rw [upd_ne dp]; exact h.hd, fun k v ek => ?_, fun b t hb => ?_, h.inj⟩
  · by_cases hk : k = kT [a]
    · subst hk
      rw [e] at ek
      cases ek
      refine ⟨a, p, ys' ++ ws, rfl, rfl, h3, upd_same, ?_, fun y => ?_⟩
      · rw [List.length_append, List.length_append]
        simp
        omega
      · rw [List.mem_append, h6, hm]
        constructor
        · rintro (⟨t, ht, x⟩ | x)
          · exact ⟨t, List.mem_append_left _ ht, x⟩
          · exact ⟨r, List.mem_append_right _ List.mem_cons_self, x⟩
        · rintro ⟨t, ht, x⟩
          rcases List.mem_append.mp ht with ht | ht
          · exact .inl ⟨t, ht, x⟩
          · have : t = r := by simpa using ht
            subst this
            exact .inr x
    · obtain ⟨b, q, zs, g1, g2, g3, g4, g5, g6⟩ := h.ent k v ek
      have qp : q ≠ p := fun eq => hk (h.inj _ _ (.ref p) (by rw [ek, g2, eq]) e)
      refine ⟨b, q, zs, g1, g2, g3, by rw [upd_ne qp]; exact g4, ?_, fun y => ?_⟩
      · rw [List.length_append]
        omega
      · rw [g6]
        constructor
        · rintro ⟨t, ht, x⟩
          exact ⟨t, List.mem_append_left _ ht, x⟩
        · rintro ⟨t, ht, x⟩
          rcases List.mem_append.mp ht with ht | ht
          · exact ⟨t, ht, x⟩
          · have : b = a := by
              have := List.mem_singleton.mp ht
              exact (List.cons.inj this).1
            subst this
            exact absurd g1 hk
  · rcases List.mem_append.mp hb with hb | hb
    · exact h.cov b t hb
    · have := (List.cons.inj (List.mem_singleton.mp hb)).1
      subst this
      exact ⟨_, e⟩
abbrev norders_by : List Str := ["rows", "found", "row", "top"]
theorem scorders_by : FnScope norders_by ["rows"] (defScope (top 5)) := ⟨rfl, rfl, rfl, by decide +kernel, rfl, by decide +kernel, by decide +kernel⟩
abbrev TopD (g : K27.Grid) : Nat → Prop := fun a => ∃ y, g.Way a y
def spOby (K : PySem.W.Frag) : Sp := fun vs H Q _ => ∃ (a : Addr) (g : K27.Grid), vs = [.ref a] ∧ SqT K H a (g.rows.map vS) ∧ Good g ∧ ∀ H' d kvs, Same H H' → WDk (TopD g) H' d g kvs → Q (.ref d) H'
theorem row_cons {g : K27.Grid} (ok : Good g) {row : List Nat} (h : row ∈ g.rows) : ∃ a r, row = a :: r ∧ r.length ≤ 3 ∧ r.length = g.w := by
  have h1 := ok.ok.len row h
  have h2 := ok.ok.w23
  match row, h1 with
  | [], h1 => simp at h1
  | a :: r, h1 => exact ⟨a, r, rfl, by simp at h1; omega, by simpa using h1⟩
section
variable {P : Program} {w : World} {K : PySem.W.Frag} {mg : Str → Option Value} {base : Heap}
theorem c_orders_by {f : Addr} {fd : FuncData} (F : FnP K "orders_by" 5 f fd) (hm : mg "orders_by" = some (.ref f)) (B : Free mg) (C_orders_of : Cal P w K mg base 2 "orders_of" spOrd) : Cal P w K mg base 3 "orders_by" (spOby K) := by
  refine cal_of F hm scorders_by (fun _ _ _ _ _ _ us hl => match us, hl with | [_], _ => rfl) (fun vs H Q E h => ?_) (fun cdv A outer s H vs Q E hr h => ?_)
  · obtain ⟨a, g, rfl, _⟩ := h
    rfl
  · obtain ⟨a, g, rfl, hg, ok, q⟩ := h
    have nd := scorders_by.nd
    have hu := hu_of hr
    refine ⟨_, pss_cons (ps_set (i := 1) nd rfl (Or.inr rfl) pe_dnewK)
      (pss_cons (ps_for PassesOwn.never rfl (pi_tupK K (pv 0)) (pg_name (i := 2) nd rfl (Or.inl rfl)) (pss_one (ps_expr (pe_bmK K PySem.F.plainAttrs_list PySem.F.slot_list_extend PySem.F.type_list_extend mt_extend (pe_dsetd (pv 1) (pe_ix ix_str (pv 2) pe_int (fun _ _ => rfl)) (pe_lst pa_nil) ⟨rfl, rfl, rfl, rfl⟩) (pa_cons (pe_c C_orders_of hr (by decide) (pa_cons (pe_slice sl_str (pv 2) (po_some pe_int) po_none) pa_nil)) pa_nil)))))
      (pss_one (ps_ret (pe_lock (pe_dc (own := [("top", 3)]) (by rfl) nd (pi_keys (pv 1)) (blkOk_by (own := [("top", 3)]) (N := norders_by) (sc := defScope (top 5)) (by decide +kernel)) (fun _ _ _ _ _ => pg_name (i := 3) nd rfl (Or.inl rfl)) (fun _ _ _ _ _ => pts_nil) (fun _ _ _ _ _ => pv 3) (fun _ _ _ _ _ => pe_callB (sortedAK K) (by rfl) B.sorted (by decide +kernel) (pa_cons (pe_dget hu (pv 1) (pv 3) (fun _ _ => rfl)) pa_nil))))))), ?_⟩
    intro d hd
    refine ⟨_, rfl, a, rfl, ⟨_, same_seqT (same_upd hd) hg⟩, ?_⟩
    refine for_it (walk_tup (xs := g.rows.map vS)) (fun i σ H' => ∃ (x : Option V) (kvs : List (Key × V)), σ = [some (.ref a), some (.ref d), x, none] ∧ kvs.length ≤ i ∧ OB H H' d kvs (g.rows.take i)) ⟨none, [], rfl, Nat.le_refl _, same_upd hd, hd, upd_same, (fun k v e => absurd e (by simp [valV_nil])), (fun b r hb => absurd hb (by simp)), (fun k k' v e => absurd e (by simp [valV_nil]))⟩
      (fun i σ H' _ pv => let ⟨_, _, _, _, ob⟩ := pv; same_seqT ob.sm hg) (fun i x σ H1 H' hi pv y => ?_) fun σ H' pv => ?_
    · obtain ⟨x0, kvs, rfl, kl, ob⟩ := pv
      obtain ⟨rfl, hx⟩ := y
      obtain ⟨row, ho, rfl⟩ := map_take _ _ _ _ hx
      have hrow : row ∈ g.rows := List.mem_of_getElem? ho
      obtain ⟨c, r, rfl, hr3, hrw⟩ := row_cons ok hrow
      have sz : (S (c :: r)).length ≤ sizeLine := by
        have : (S (c :: r)).length = (c :: r).length := S_len _
        exact Nat.le_of_lt (small24 (by simp at this; omega))
      have most := ok.most
      have hi' : i < g.rows.length := by simpa using hi
      have tk : g.rows.take (i + 1) = g.rows.take i ++ [c :: r] := by
        rw [List.take_add_one, ho]
        rfl
      have cut : cutS (S (c :: r)) (some 1) none = S r := by
        rw [C8.cutS_slice]
        exact SX.slice_from (by decide)
      -- what follows, from a heap where the key stands
      have go : ∀ H2 kvs2 p (ys : List (List Nat)), kvs2.length ≤ i + 1 → OB H H2 d kvs2 (g.rows.take i) → valV kvs2 (kT [c]) = some (.ref p) → H2 p = some (.lst (ys.map vS)) → ys.length ≤ 27 * i →
          ∀ H3 b, Same H2 H3 → H2 b = none → H3 b = some (.lst ((ordF r r.length).map vS)) →
          ∃ (x : Option V) (kvs : List (Key × V)), ([some (.ref a), some (.ref d), some (vS (c :: r)), none] : List (Option V)) = [some (.ref a), some (.ref d), x, none] ∧ kvs.length ≤ i + 1 ∧ OB H (upd H3 p (.lst ((ys ++ ordF r r.length).map vS))) d kvs (g.rows.take (i + 1)) := by
        intro H2 kvs2 p ys h1 h2 h3 h4 h5 H3 b s3 _ hb
        refine ⟨_, kvs2, rfl, h1, ?_⟩
        rw [tk]
        exact OB.more (h2.same s3) h3 (s3 _ _ h4) (ordF_27 r hr3 _ (Nat.le_refl _)) (mem_ordF_all r)
      have fin : ∀ H2 kvs2 p (ys : List (List Nat)), kvs2.length ≤ i + 1 → OB H H2 d kvs2 (g.rows.take i) → valV kvs2 (kT [c]) = some (.ref p) → H2 p = some (.lst (ys.map vS)) → ys.length ≤ 27 * i →
          tyV K "list" (.ref p) H2 ∧ tCons (tCall spOrd [] E0 (tCons (tSl rSlS (tVar 2) (tPart (tC (.int 1))) tNoPart) tNil)) tNil [some (.ref a), some (.ref d), some (vS (c :: r)), none] H2 fun xs H3 => rExtend (.ref p) xs H3 fun _ H4 =>
            ∃ (x : Option V) (kvs : List (Key × V)), ([some (.ref a), some (.ref d), some (vS (c :: r)), none] : List (Option V)) = [some (.ref a), some (.ref d), x, none] ∧ kvs.length ≤ i + 1 ∧ OB H H4 d kvs (g.rows.take (i + 1)) := by
        intro H2 kvs2 p ys h1 h2 h3 h4 h5
        refine ⟨.inl ⟨rfl, _, SqL.of h4⟩, _, rfl, 1, rfl, _, rfl, sz, ?_⟩
        rw [cut]
        refine ⟨r, rfl, hr3, fun H3 b s3 hb hb' => ?_⟩
        refine ⟨p, b, _, _, rfl, rfl, s3 _ _ h4, hb', ?_, ?_⟩
        · have := ordF_27 r hr3 _ (Nat.le_refl _)
          rw [List.length_map, List.length_map]
          exact Nat.le_of_lt (small24 (by omega))
        · have := go H2 kvs2 p ys h1 h2 h3 h4 h5 H3 b s3 hb hb'
          rwa [List.map_append] at this
      refine ⟨_, rfl, d, rfl, .inl ⟨kvs, .inl ob.hd⟩, _, rfl, _, _, c, rfl, rfl, sz, atI_nat (j := 0) rfl, ?_⟩
      refine ⟨Nat.zero_le _, fun z hz => ?_⟩
      have sz2 := same_upd (o := .lst []) hz
      have ob2 := ob.same sz2
      refine ⟨kvs, kT [c], ob2.hd, rfl, small24 (by omega), fun v hv => ?_, fun hn => ?_⟩
      · obtain ⟨b, p, ys, h1, rfl, h3, h4, h5, h6⟩ := ob2.ent _ _ hv
        refine fin _ kvs p ys (by omega) ob2 hv h4 ?_
        rw [List.length_take] at h5
        omega
      · have zn : ∀ k v, valV kvs k = some v → v ≠ .ref z := fun k v hv e => by
          obtain ⟨b, p, ys, h1, h2, h3, h4, h5, h6⟩ := ob.ent _ _ hv
          rw [h2] at e
          cases e
          rw [hz] at h4
          cases h4
        have ob3 := OB.new ob2 hn upd_same (none_of ob.sm hz) zn
        have zd : z ≠ d := fun e => by
          rw [e, ob.hd] at hz
          cases hz
        refine fin _ _ z [] ?_ ob3 ?_ ?_ (Nat.zero_le _)
        · have := length_putK kvs (kT [c]) (.ref z)
          omega
        · rw [valV_put, if_pos rfl]
        · rw [upd_ne zd]
          exact upd_same
    · obtain ⟨x0, kvs, rfl, kl, ob⟩ := pv
      have e : (g.rows.map vS).length = g.rows.length := List.length_map ..
      rw [e] at kl ob
      rw [List.take_length] at ob
      have most := ok.most
      refine ⟨d, _, ob.hd, trivial, fun od => ?_⟩
      refine ⟨_, rfl, d, od, rfl, .inl ⟨kvs, upd_same, fun D hD => ?_⟩⟩
      have dD : d ≠ D := fun e => by
        rw [← e, upd_same] at hD
        cases hD
      have hD' : H' D = none := by rwa [upd_ne (Ne.symm dD)] at hD
      have old : ∀ (p : Addr) (xs : List V), H' p = some (.lst xs) → upd H' d (.frz od (.dK kvs)) p = some (.lst xs) := fun p xs hp => by
        rw [upd_ne]
        · exact hp
        · intro e
          rw [e, ob.hd] at hp
          cases hp
      refine walk_it (walk_keys (kvs := kvs)) (fun j H2 => Same (upd H' d (.frz od (.dK kvs))) H2 ∧ ∃ out, H2 D = some (.dK out) ∧ out.length ≤ j ∧
        (∀ k v, valV out k = some v → ∃ (a : Nat) (q : Addr) (ws : List (List Nat)), k = kT [a] ∧ v = .ref q ∧ q ≠ D ∧ H2 q = some (.lst (ws.map vS)) ∧ ws.length ≤ 432 ∧ ∀ y, y ∈ ws ↔ g.Way a y) ∧ (∀ (i : Nat) k v, i < j → kvs[i]? = some (k, v) → ∃ u, valV out k = some u))
        ⟨same_upd hD, [], upd_same, Nat.le_refl _, (fun k v e => absurd e (by simp [valV_nil])), fun i k v h => absurd h (Nat.not_lt_zero _)⟩ (fun j H2 _ pv => pv.1 _ _ upd_same) (fun j x H2 H3 hj pv y => ?_) fun H2 pv => ?_
      · obtain ⟨s2, out, ho, hol, hen, hcv⟩ := pv
        obtain ⟨rfl, k, v, hk, rfl⟩ := y
        obtain ⟨u, hu⟩ := valV_some (List.mem_of_getElem? hk)
        obtain ⟨b, p, ys, rfl, rfl, h3, h4, h5, h6⟩ := ob.ent _ _ hu
        refine ⟨rfl, _, rfl, _, rfl, _, rfl, d, .ref p, rfl, .inl ⟨kvs, kT [b], .inr ⟨od, s2 _ _ upd_same⟩, rfl, hu.symm⟩, ?_⟩
        refine ⟨p, ys, rfl, SqL.of (s2 _ _ (old p _ h4)), fun q ws hq pw => ⟨out, kT [b], rfl, ?_, small24 (by omega), ?_⟩⟩
        · rw [upd_ne]
          · exact ho
          · intro e
            rw [← e, ho] at hq
            cases hq
        have qD : q ≠ D := fun e => by
          rw [e, ho] at hq
          cases hq
        refine ⟨same_f (s2.trans (same_upd hq)) hD, _, upd_same, ?_, fun k v e => ?_, fun i k v hi hik => ?_⟩
        · have := length_putK out (kT [b]) (.ref q)
          omega
        · rw [valV_put] at e
          by_cases hkb : k = kT [b]
          · rw [if_pos hkb] at e
            cases e
            refine ⟨b, q, ws, hkb, rfl, qD, by rw [upd_ne qD]; exact upd_same, ?_, fun y => ?_⟩
            · rw [pw.length_eq]
              omega
            · rw [pw.mem_iff, h6]
              exact Iff.rfl
          · rw [if_neg hkb] at e
            obtain ⟨a', q', ws', g1, g2, g3, g4, g5⟩ := hen k v e
            refine ⟨a', q', ws', g1, g2, g3, ?_, g5⟩
            rw [upd_ne g3, upd_ne]
            · exact g4
            · intro e
              rw [← e, g4] at hq
              cases hq
        · rw [valV_put]
          by_cases hkb : k = kT [b]
          · rw [if_pos hkb]
            exact ⟨_, rfl⟩
          · rw [if_neg hkb]
            by_cases hij : i < j
            · exact hcv i k v hij hik
            · have : i = j := by omega
              subst this
              rw [hk] at hik
              cases hik
              exact absurd rfl hkb
      · obtain ⟨s2, out, ho, hol, hen, hcv⟩ := pv
        refine ⟨s2 _ _ upd_same, ?_⟩
        have dn : ∀ q, (∃ xs, H2 q = some (.lst xs)) → q ≠ d := fun q ⟨xs, e⟩ eq => by
          rw [eq, s2 _ _ upd_same] at e
          cases e
        refine q _ D out ?_ ⟨by rw [upd_ne (Ne.symm dD)]; exact ho, by omega, fun k v e => ?_, fun b ⟨y, r, hr, _⟩ => ?_⟩
        · intro b o hb
          have hb' := ob.sm b o hb
          by_cases e : b = d
          · subst e
            rw [ob.d0] at hb
            cases hb
          · rw [upd_ne e]
            exact s2 _ _ (by rw [upd_ne e]; exact hb')
        · obtain ⟨a', q', ws', g1, g2, g3, g4, g5, g6⟩ := hen k v e
          exact ⟨a', q', ws', g1, g2, by rw [upd_ne (dn q' ⟨_, g4⟩)]; exact g4, g5, g6⟩
        · obtain ⟨v, hv⟩ := ob.cov b r hr
          have hm := valV_in hv
          obtain ⟨kv, hkv, ek⟩ := List.mem_map.mp hm
          obtain ⟨i, hi⟩ := List.getElem?_of_mem hkv
          have hil : i < kvs.length := (List.getElem?_eq_some_iff.mp hi).1
          have := hcv i kv.1 kv.2 hil hi
          rwa [ek] at this
end
end K27W
/-! K27: fits, tops_above, rows_of_lots, is_less. -/
namespace K27W
open PySem PySem.Spec PyProof.Rows L2 K27R
abbrev SC_tops_above : Scope := { kind := .function, names := [(".0", .local), ("top", .local), ("any", .globalImplicit), ("lots", .cell), ("orders", .cell)], isGenerator := false, isCoroutine := false }
def fitB (y : List Nat) (ls : List (List Nat)) : Bool := (y.zip ls).all fun p => decide (p.1 ∈ p.2)
theorem fitB_iff {y : List Nat} {ls : List (List Nat)} : fitB y ls = true ↔ ∀ (j c : Nat) (l : List Nat), y[j]? = some c → ls[j]? = some l → c ∈ l := by
  unfold fitB
  rw [List.all_eq_true]
  constructor
  · intro h j c l h1 h2
    have := h (c, l) (List.mem_of_getElem? (List.getElem?_zip_eq_some.mpr ⟨h1, h2⟩))
    simpa using this
  · rintro h ⟨c, l⟩ hm
    obtain ⟨j, hj⟩ := List.getElem?_of_mem hm
    obtain ⟨h1, h2⟩ := List.getElem?_zip_eq_some.mp hj
    simpa using h j c l h1 h2
theorem can_iff {g : K27.Grid} {ls : List (List Nat)} {a : Nat} : g.Can ls a ↔ ∃ y, g.Way a y ∧ fitB y ls = true := by
  unfold K27.Grid.Can
  constructor
  · rintro ⟨y, h1, h2⟩
    exact ⟨y, h1, fitB_iff.mpr h2⟩
  · rintro ⟨y, h1, h2⟩
    exact ⟨y, h1, fitB_iff.mp h2⟩
theorem fm_some {α β : Type} (f : α → β) (l : List α) : l.filterMap (fun a => some (f a)) = l.map f := by
  induction l with
  | nil => rfl
  | cons a l ih => rw [List.filterMap_cons, List.map_cons, ih]
abbrev nfits : List Str := ["order", "lots", "label", "lot"]
theorem scfits : FnScope nfits ["order", "lots"] (defScope (top 6)) := ⟨rfl, rfl, rfl, by decide +kernel, rfl, by decide +kernel, by decide +kernel⟩
def spFit (K : PySem.W.Frag) : Sp := fun vs H Q _ => ∃ (y : List Nat) (a : Addr) (ls : List (List Nat)), vs = [vS y, .ref a] ∧ SqT K H a (ls.map vS) ∧ y.length = ls.length ∧ ls.length ≤ 1000 ∧ ∀ H', Same H H' → Q (.bl (fitB y ls)) H'
abbrev ntops_above : List Str := ["orders", "lots", "top", "order"]
theorem sctops_above : FnScope ntops_above ["orders", "lots"] (defScope (top 7)) := ⟨rfl, rfl, rfl, by decide +kernel, rfl, by decide +kernel, by decide +kernel⟩
def spTop (K : PySem.W.Frag) : Sp := fun vs H Q _ => ∃ (d a : Addr) (g : K27.Grid) (kvs : List (Key × V)) (ls : List (List Nat)), vs = [.ref d, .ref a] ∧ WDk (TopD g) H d g kvs ∧ SqT K H a (ls.map vS) ∧ ls.length = g.w ∧ Good g ∧ ∀ H', Same H H' → Q (vS (g.F ls)) H'
theorem way_len {g : K27.Grid} (ok : Good g) {a : Nat} {y : List Nat} (h : g.Way a y) : y.length = g.w := by
  obtain ⟨r, hr, p⟩ := h
  have := ok.ok.len _ hr
  rw [p.length_eq]
  simpa using this
/-- the letter of a key -/
def letK : Key → Nat
  | .inr s => (cps s).headD 0
  | .inl _ => 0
section
variable {P : Program} {w : World} {K : PySem.W.Frag} {mg : Str → Option Value} {base : Heap}
theorem c_fits {f : Addr} {fd : FuncData} (F : FnP K "fits" 6 f fd) (hm : mg "fits" = some (.ref f)) (B : Free mg) : Cal P w K mg base 1 "fits" (spFit K) := by
  refine cal_of F hm scfits (fun _ _ _ _ _ _ us hl => match us, hl with | [_, _], _ => rfl) (fun vs H Q E h => ?_) (fun cdv A outer s H vs Q E hr h => ?_)
  · obtain ⟨y, a, ls, rfl, _⟩ := h
    rfl
  · obtain ⟨y, a, ls, rfl, ha, hl, hz, q⟩ := h
    have nd := scfits.nd
    have hu := hu_of hr
    refine ⟨_, pss_one (ps_ret (pe_callB (allK K rfl) (by rfl) B.all (by decide +kernel) (pa_cons (pe_lc (own := [("label", 2), ("lot", 3)]) (g := gTup K 2 (gCons (gName 2) (gCons (gName 3) gNil))) (by rfl) nd (pi_zipxK K (by rfl) B.zip (pa_cons (pv 0) (pa_cons (pv 1) pa_nil))) (blkOk_by (own := [("label", 2), ("lot", 3)]) (N := nfits) (sc := defScope (top 6)) (by decide +kernel)) (fun _ _ _ _ _ => pg_tupK K (by rfl) (pgs_cons (pg_name (i := 2) nd rfl (Or.inl rfl)) (pgs_cons (pg_name (i := 3) nd rfl (Or.inl rfl)) pgs_nil))) (fun _ _ _ _ _ => pts_nil) (fun _ _ _ _ _ => pe_cmpR op_in_sign (pv 2) (pv 3) (by with_unfolding_all rfl))) pa_nil))), ?_⟩
    refine ⟨_, rfl, _, rfl, S y, a, ls.map vS, rfl, ha, fun D hD => ?_⟩
    have hl' : (S y).cps.size = (ls.map vS).length := by
      rw [List.length_map, ← hl]
      exact S_len y
    refine lc_fl (walk_zipx (K := K) (z := S y) (b := a) (ys := ls.map vS) hl') (y.zip ls) (fun p => some (.bl (decide (p.1 ∈ p.2)))) ?_ ?_ hD (fun H' s' => same_seqT s' ha) (fun i p x H2 H3 Qy Qn hi hp s2 _ yl qy _ => ?_) fun H' s' h' => ?_
    · rw [List.length_zip, List.length_map]
      omega
    · rw [List.length_map]
      omega
    · obtain ⟨T, c, v, rfl, hT, rfl, h1, h2⟩ := yl
      obtain ⟨l, h3, rfl⟩ := map_take _ _ _ _ h2
      obtain ⟨g1, g2⟩ := List.getElem?_zip_eq_some.mp hp
      have h1' : y[i]? = some c := by simpa using h1
      rw [h1'] at g1
      rw [h3] at g2
      have e1 := Option.some.inj g1
      have e2 := Option.some.inj g2
      refine ⟨T, _, rfl, SqT.of upd_same, rfl, _, _, rfl, _, _, rfl, rfl, rfl, _, rfl, _, rfl, c, S l, rfl, rfl, ?_⟩
      refine qy _ _ ?_ (same_upd hT)
      rw [← e1, ← e2]
    · rw [fm_some] at h'
      refine ⟨D, (y.zip ls).map fun p => decide (p.1 ∈ p.2), rfl, SqL.of ?_, ?_⟩
      · rw [h', List.map_map]
        rfl
      · have e : ((y.zip ls).map fun p => decide (p.1 ∈ p.2)).any id = (y.zip ls).any fun p => decide (p.1 ∈ p.2) := by
          rw [List.any_map]
          rfl
        have e : ((y.zip ls).map fun p => decide (p.1 ∈ p.2)).all id = fitB y ls := by
          rw [List.all_map]
          rfl
        rw [e]
        exact q _ s'
theorem c_tops_above {f : Addr} {fd : FuncData} (F : FnP K "tops_above" 7 f fd) (hm : mg "tops_above" = some (.ref f)) (B : Free mg) (C_lot_of : Cal P w K mg base 1 "lot_of" (spLot K)) (C_fits : Cal P w K mg base 1 "fits" (spFit K)) :
    Cal P w K mg base 2 "tops_above" (spTop K) := by
  refine cal_of F hm sctops_above (fun _ _ _ _ _ _ us hl => match us, hl with | [_, _], _ => rfl) (fun vs H Q E h => ?_) (fun cdv A outer s H vs Q E hr h => ?_)
  · obtain ⟨d, a, g, kvs, ls, rfl, _⟩ := h
    rfl
  · obtain ⟨d, a, g, kvs, ls, rfl, wd, ha, hl, ok, q⟩ := h
    have nd := sctops_above.nd
    have hu := hu_of hr
    refine ⟨_, pss_one (ps_ret (pe_c C_lot_of hr (by decide) (pa_cons (pe_lock (pe_lc (own := [("top", 2)]) (g := gName 2) (by rfl) nd (pi_keys (pv 0)) (blkOk_by (own := [("top", 2)]) (N := ntops_above) (sc := defScope (top 7)) (by decide +kernel)) (fun _ _ _ _ _ => pg_name (i := 2) nd rfl (Or.inl rfl)) (fun _ _ _ _ _ => pts_one (pt_val (pe_callB (anyK K rfl) (by rfl) B.any (by decide +kernel) (pa_cons (pe_lc (own := [("order", 3)]) (g := gName 3) (by rfl) nd (pi_listK K (pe_dget hu (pv 0) (pv 2) (fun _ _ => rfl))) (blkOk_by (own := [("order", 3)]) (N := ntops_above) (sc := SC_tops_above) (by decide +kernel)) (fun _ _ _ _ _ => pg_name (i := 3) nd rfl (Or.inl rfl)) (fun _ _ _ _ _ => pts_nil) (fun _ _ _ _ _ => pe_c C_fits hr (by decide) (pa_cons (pv 3) (pa_cons (pv 1) pa_nil)))) pa_nil)))) (fun _ _ _ _ _ => pv 2))) pa_nil))), ?_⟩
    have hw := ok.ok.w23
    refine ⟨d, _, wd.hd, trivial, fun od => ?_⟩
    refine ⟨_, rfl, d, od, rfl, .inl ⟨kvs, upd_same, fun D hD => ?_⟩⟩
    have dD : d ≠ D := fun e => by
      rw [← e, upd_same] at hD
      cases hD
    have hD0 : H D = none := by rwa [upd_ne (Ne.symm dD)] at hD
    have hal : SqT K (upd H d (.frz od (.dK kvs))) a (ls.map vS) := by
      rcases ha with (h | ⟨o, h⟩) | h
      · refine .inl (.inl ?_)
        rw [upd_ne]
        · exact h
        · intro e
          rw [e, wd.hd] at h
          cases h
      · refine .inl (.inr ⟨o, ?_⟩)
        rw [upd_ne]
        · exact h
        · intro e
          rw [e, wd.hd] at h
          cases h
      · exact .inr h
    have old : ∀ (p : Addr) (xs : List V), H p = some (.lst xs) → upd H d (.frz od (.dK kvs)) p = some (.lst xs) := fun p xs hp => by
      rw [upd_ne]
      · exact hp
      · intro e
        rw [e, wd.hd] at hp
        cases hp
    classical
    refine lc_fl (walk_keys (kvs := kvs)) kvs (fun kv => if g.Can ls (letK kv.1) then some (kV kv.1) else none) rfl (by have := wd.len; omega) hD (fun H' s' => s' _ _ upd_same) (fun i kv x H2 H3 Qy Qn hi hp s2 _ yl qy qn => ?_) fun H' s' h' => ?_
    · obtain ⟨rfl, k, v, hk, rfl⟩ := yl
      rw [hk] at hp
      cases hp
      obtain ⟨u, hu⟩ := valV_some (List.mem_of_getElem? hk)
      obtain ⟨b, p, ys, rfl, rfl, h4, h5, h6⟩ := wd.ent _ _ hu
      refine ⟨rfl, _, rfl, _, rfl, d, .ref p, rfl, .inl ⟨kvs, kT [b], .inr ⟨od, s2 _ _ upd_same⟩, rfl, hu.symm⟩, p, rfl, ⟨_, SqL.of (s2 _ _ (old p _ h4))⟩, fun D2 hD2 => ?_⟩
      refine lc_fl (walk_list (xs := ys.map vS)) ys (fun y => some (.bl (fitB y ls))) (by rw [List.length_map]) (by rw [List.length_map]; omega) hD2 (fun H' s' => s'.seq (SqL.of (s2 _ _ (old p _ h4)))) (fun j y x H4 H5 Qy2 Qn2 hj hy s4 _ yl2 qy2 _ => ?_) fun H5 s5 h5' => ?_
      · obtain ⟨rfl, hx⟩ := yl2
        obtain ⟨y', hy', rfl⟩ := map_take _ _ _ _ hx
        rw [hy'] at hy
        cases hy
        have hwy := way_len ok ((h6 y).mp (List.mem_of_getElem? hy'))
        exact ⟨rfl, _, rfl, _, rfl, y, a, ls, rfl, same_seqT (s2.trans s4) hal, by omega, by omega, fun H6 s6 => qy2 _ _ rfl s6⟩
      · rw [fm_some] at h5'
        refine ⟨D2, ys.map fun y => fitB y ls, rfl, SqL.of (by rw [h5', List.map_map]; rfl), _, rfl, ?_⟩
        have e : ((ys.map fun y => fitB y ls).any id) = decide (g.Can ls b) := by
          rw [Bool.eq_iff_iff, List.any_eq_true, decide_eq_true_eq, can_iff]
          constructor
          · rintro ⟨t, ht, e⟩
            obtain ⟨y, hy, rfl⟩ := List.mem_map.mp ht
            exact ⟨y, (h6 y).mp hy, e⟩
          · rintro ⟨y, hy, e⟩
            exact ⟨_, List.mem_map.mpr ⟨y, (h6 y).mpr hy, rfl⟩, e⟩
        rw [e]
        have lk : letK (kT [b]) = b := rfl
        by_cases hc : g.Can ls b
        · rw [decide_eq_true hc]
          refine iteT ⟨_, rfl, qy _ _ ?_ s5⟩
          show (if g.Can ls (letK (kT [b])) then some (kV (kT [b])) else none) = _
          rw [lk, if_pos hc]
        · rw [decide_eq_false hc]
          refine iteF (qn _ ?_ s5)
          show (if g.Can ls (letK (kT [b])) then some (kV (kT [b])) else none) = _
          rw [lk, if_neg hc]
    · refine ⟨s' _ _ upd_same, ?_⟩
      have e : kvs.filterMap (fun kv => if g.Can ls (letK kv.1) then some (kV kv.1) else none) = ((kvs.filterMap fun kv => if g.Can ls (letK kv.1) then some (letK kv.1) else none).map fun c => S [c]).map V.str := by
        rw [List.map_map, List.map_filterMap]
        have cong : ∀ l : List (Key × V), (∀ kv ∈ l, ∃ b, kv.1 = kT [b]) → l.filterMap (fun kv => if g.Can ls (letK kv.1) then some (kV kv.1) else none) = l.filterMap (fun kv => Option.map (V.str ∘ fun c => S [c]) (if g.Can ls (letK kv.1) then some (letK kv.1) else none)) := by
          intro l
          induction l with
          | nil => exact fun _ => rfl
          | cons kv l ih =>
            intro h
            obtain ⟨b, hb⟩ := h kv List.mem_cons_self
            have ih := ih fun x hx => h x (List.mem_cons_of_mem _ hx)
            rw [List.filterMap_cons, List.filterMap_cons, ih, hb]
            have lk : letK (kT [b]) = b := rfl
            rw [lk]
            by_cases hc : g.Can ls b
            · rw [if_pos hc, if_pos hc]
              rfl
            · rw [if_neg hc, if_neg hc]
              rfl
        refine cong kvs fun kv hkv => ?_
        obtain ⟨u, hu⟩ := valV_some (k := kv.1) (v := kv.2) hkv
        obtain ⟨b, p, ys, h1, _⟩ := wd.ent _ _ hu
        exact ⟨b, h1⟩
      have zl : (kvs.filterMap fun kv => if g.Can ls (letK kv.1) then some (letK kv.1) else none).length ≤ 16 := Nat.le_trans (List.length_filterMap_le _ _) wd.len
      refine ⟨.ref D, kvs.filterMap fun kv => if g.Can ls (letK kv.1) then some (letK kv.1) else none, rfl, .inr ⟨D, rfl, SqL.of ?_⟩, by omega, fun H6 s6 => ?_⟩
      · rw [upd_ne (Ne.symm dD), h', e]
      · have eF : K27.sdN (kvs.filterMap fun kv => if g.Can ls (letK kv.1) then some (letK kv.1) else none) = g.F ls := by
          refine K27.asc_ext K27.linN (K27.asc_sdG K27.linN _) (K27.F_asc ls) fun x => ?_
          rw [K27.mem_sdG, K27.mem_F, List.mem_filterMap]
          constructor
          · rintro ⟨kv, _, e⟩
            by_cases hc : g.Can ls (letK kv.1)
            · rw [if_pos hc] at e
              cases e
              exact hc
            · rw [if_neg hc] at e
              cases e
          · intro hc
            obtain ⟨y, hy, _⟩ := hc
            obtain ⟨v, hv⟩ := wd.dom x ⟨y, hy⟩
            obtain ⟨kv, hkv, ek⟩ := List.mem_map.mp (valV_in hv)
            refine ⟨kv, hkv, ?_⟩
            have lk : letK kv.1 = x := by
              rw [ek]
              rfl
            rw [lk, if_pos ⟨y, hy, by assumption⟩]
        rw [eF]
        refine q _ ?_
        intro b o hb
        refine s6 _ _ ?_
        by_cases e : b = d
        · rw [e] at hb ⊢
          rw [wd.hd] at hb
          rw [upd_same]
          exact hb
        · rw [upd_ne e]
          exact s' _ _ (by rwa [upd_ne e])
end
end K27W
/-! K27: rows_of_lots, is_less. -/
namespace K27W
open PySem PySem.Spec PyProof.Rows L2 K27R
def tuples (ks : List (List Nat)) : Nat → List (List (List Nat))
  | 0 => [[]]
  | n + 1 => (tuples ks n).flatMap fun one => ks.map fun l => one ++ [l]
theorem tuples_len (ks : List (List Nat)) (h : ks.length ≤ 9) : ∀ n, (tuples ks n).length ≤ 9 ^ n
  | 0 => Nat.le_refl _
  | n + 1 => by
    have h1 := tuples_len ks h n
    have h2 := flatMap_len (f := fun one : List (List Nat) => ks.map fun l => one ++ [l]) (n := 9) (l := tuples ks n) fun a _ => by
      rw [List.length_map]
      exact h
    show ((tuples ks n).flatMap fun one => ks.map fun l => one ++ [l]).length ≤ _
    rw [Nat.pow_succ]
    omega
theorem tuples_729 (ks : List (List Nat)) (h : ks.length ≤ 9) {n : Nat} (hn : n ≤ 3) : (tuples ks n).length ≤ 729 := by
  have h1 := tuples_len ks h n
  have h2 : 9 ^ n ≤ 9 ^ 3 := Nat.pow_le_pow_right (by decide) hn
  have h3 : 9 ^ 3 = 729 := rfl
  omega
theorem mem_tuples (ks : List (List Nat)) : ∀ (n : Nat) (t : List (List Nat)), t ∈ tuples ks n ↔ t.length = n ∧ ∀ l ∈ t, l ∈ ks
  | 0, t => by
    constructor
    · intro h
      have : t = [] := by simpa [tuples] using h
      subst this
      exact ⟨rfl, fun l hl => nomatch hl⟩
    · rintro ⟨h, _⟩
      have : t = [] := List.eq_nil_of_length_eq_zero h
      subst this
      exact List.mem_cons_self
  | n + 1, t => by
    show t ∈ (tuples ks n).flatMap (fun one => ks.map fun l => one ++ [l]) ↔ _
    rw [List.mem_flatMap]
    constructor
    · rintro ⟨o, ho, ht⟩
      obtain ⟨h1, h2⟩ := (mem_tuples ks n o).mp ho
      obtain ⟨l, hl, rfl⟩ := List.mem_map.mp ht
      refine ⟨by rw [List.length_append, h1]; rfl, fun x hx => ?_⟩
      rcases List.mem_append.mp hx with hx | hx
      · exact h2 x hx
      · rw [List.mem_singleton.mp hx]
        exact hl
    · rintro ⟨hl, hm⟩
      have hne : t ≠ [] := fun e => by
        rw [e] at hl
        cases hl
      refine ⟨t.dropLast, (mem_tuples ks n _).mpr ⟨by simp [hl], fun l h => hm l (List.dropLast_subset _ h)⟩, ?_⟩
      exact List.mem_map.mpr ⟨t.getLast hne, hm _ (List.getLast_mem hne), List.dropLast_concat_getLast hne⟩
/-- a list of addresses of tuples -/
structure Refs (H : Hp) (rs : List V) (T : List (List (List Nat))) : Prop where
  len : rs.length = T.length
  at_ : ∀ (i : Nat) t, T[i]? = some t → ∃ q, rs[i]? = some (.ref q) ∧ H q = some (.tup (t.map vS))
theorem Refs.same {H H' : Hp} {rs : List V} {T : List (List (List Nat))} (h : Refs H rs T) (s : Same H H') : Refs H' rs T :=
  ⟨h.len, fun i t e => let ⟨q, h1, h2⟩ := h.at_ i t e; ⟨q, h1, s _ _ h2⟩⟩
theorem Refs.upd {H : Hp} {D : Addr} {xs : List V} {o : HO} {rs : List V} {T : List (List (List Nat))} (h : Refs H rs T) (hD : H D = some (.lst xs)) : Refs (L2.upd H D o) rs T :=
  ⟨h.len, fun i t e => let ⟨q, h1, h2⟩ := h.at_ i t e; ⟨q, h1, by
    rw [upd_ne]
    · exact h2
    · intro z
      rw [z, hD] at h2
      cases h2⟩⟩
theorem Refs.snoc {H : Hp} {q : Addr} {t : List (List Nat)} {rs : List V} {T : List (List (List Nat))} (h : Refs H rs T) (hq : H q = some (.tup (t.map vS))) : Refs H (rs ++ [.ref q]) (T ++ [t]) := by
  refine ⟨by rw [List.length_append, List.length_append, h.len]; rfl, fun i u e => ?_⟩
  by_cases hi : i < T.length
  · rw [List.getElem?_append_left hi] at e
    obtain ⟨p, h1, h2⟩ := h.at_ i u e
    exact ⟨p, by rw [List.getElem?_append_left (by rw [h.len]; exact hi)]; exact h1, h2⟩
  · rw [List.getElem?_append_right (by omega)] at e
    have h0 : i - T.length = 0 := by
      have := (List.getElem?_eq_some_iff.mp e).1
      simp at this
      omega
    rw [h0] at e
    cases e
    refine ⟨q, ?_, hq⟩
    rw [List.getElem?_append_right (by rw [h.len]; omega), h.len, h0]
    rfl
abbrev nrows_of_lots : List Str := ["known", "many", "found", "lap", "one", "lot"]
theorem scrows_of_lots : FnScope nrows_of_lots ["known", "many"] (defScope (top 9)) := ⟨rfl, rfl, rfl, by decide +kernel, rfl, by decide +kernel, by decide +kernel⟩
def spRol (K : PySem.W.Frag) : Sp := fun vs H Q _ => ∃ (k : Addr) (m : Nat) (ks : List (List Nat)), vs = [.ref k, .int (m : Int)] ∧ SqL K H k (ks.map vS) ∧ ks.length ≤ 9 ∧ m ≤ 3 ∧ ∀ H' p rs, Same H H' → H p = none → H' p = some (.lst rs) → Refs H' rs (tuples ks m) → Q (.ref p) H'
abbrev nis_less : List Str := ["shape", "other"]
theorem scis_less : FnScope nis_less ["shape", "other"] (defScope (top 10)) := ⟨rfl, rfl, rfl, by decide +kernel, rfl, by decide +kernel, by decide +kernel⟩
def spLess : Sp := fun vs H Q _ => ∃ (s : List Nat) (o : Option (List Nat)), vs = [vS s, (o.map vS).getD .non] ∧ s.length ≤ 1000000 ∧ (∀ t, o = some t → t.length ≤ 1000000) ∧ ∀ H', Same H H' → Q (.bl (match o with | none => true | some t => decide (K27.less s t))) H'
theorem pairLt_less (s t : List Nat) : pairLt (s.length : Int) (S s) (t.length : Int) (S t) = decide (K27.less s t) := by
  have hl : K27.less s t ↔ (s.length < t.length ∨ (s.length = t.length ∧ s < t)) := Iff.rfl
  rw [Bool.eq_iff_iff, decide_eq_true_eq, hl]
  unfold pairLt
  by_cases h : s.length = t.length
  · rw [if_pos (by rw [h])]
    have e : (decide ((S s).cps.toList < (S t).cps.toList) = true) ↔ s < t := decide_eq_true_iff
    rw [e]
    constructor
    · exact fun x => .inr ⟨h, x⟩
    · rintro (x | x)
      · omega
      · exact x.2
  · rw [if_neg (by omega), decide_eq_true_eq]
    constructor
    · exact fun x => .inl (by omega)
    · rintro (x | x)
      · omega
      · exact absurd x.1 h
section
variable {P : Program} {w : World} {K : PySem.W.Frag} {mg : Str → Option Value} {base : Heap}
theorem c_is_less {f : Addr} {fd : FuncData} (F : FnP K "is_less" 10 f fd) (hm : mg "is_less" = some (.ref f)) (B : Free mg) : Cal P w K mg base 1 "is_less" spLess := by
  refine cal_of F hm scis_less (fun _ _ _ _ _ _ us hl => match us, hl with | [_, _], _ => rfl) (fun vs H Q E h => ?_) (fun cdv A outer s H vs Q E hr h => ?_)
  · obtain ⟨s, o, rfl, _⟩ := h
    rfl
  · obtain ⟨s, o, rfl, hs, ho, q⟩ := h
    have nd := scis_less.nd
    have hu := hu_of hr
    refine ⟨_, pss_one (ps_ret (pe_or (pe_cmp (pc_isN (pv 1)) rfl) (pe_one (pe_cmpR (op_ltPK K hu) (pe_tup (pa_cons (pe_callB call_len_str (by rfl) B.len (by decide +kernel) (pa_cons (pv 0) pa_nil)) (pa_cons (pv 0) pa_nil))) (pe_tup (pa_cons (pe_callB call_len_str (by rfl) B.len (by decide +kernel) (pa_cons (pv 1) pa_nil)) (pa_cons (pv 1) pa_nil))) (nomark _))))), ?_⟩
    cases o with
    | none => exact ⟨_, rfl, true, rfl, iteT (q H (Same.refl H))⟩
    | some t =>
      have ht := ho t rfl
      have l1 : (S s).length = s.length := S_len s
      have l2 : (S t).length = t.length := S_len t
      have two : 2 ≤ sizeLine := by decide
      refine ⟨_, rfl, false, rfl, iteF ?_⟩
      refine ⟨_, rfl, _, rfl, Nat.le_of_lt (small24 (by omega)), _, rfl, two, fun p hp => ?_⟩
      refine ⟨_, rfl, _, rfl, Nat.le_of_lt (small24 (by omega)), _, rfl, two, fun p2 hp2 => ?_⟩
      have ne : p ≠ p2 := fun e => by
        rw [← e, upd_same] at hp2
        cases hp2
      refine ⟨p, p2, _, _, _, _, rfl, rfl, SqT.of (by rw [upd_ne ne]; exact upd_same), SqT.of upd_same, ?_⟩
      rw [l1, l2, pairLt_less]
      exact q _ ((same_upd hp).trans (same_upd hp2))
theorem c_rows_of_lots {f : Addr} {fd : FuncData} (F : FnP K "rows_of_lots" 9 f fd) (hm : mg "rows_of_lots" = some (.ref f)) (B : Free mg) : Cal P w K mg base 1 "rows_of_lots" (spRol K) := by
  refine cal_of F hm scrows_of_lots (fun _ _ _ _ _ _ us hl => match us, hl with | [_, _], _ => rfl) (fun vs H Q E h => ?_) (fun cdv A outer s H vs Q E hr h => ?_)
  · obtain ⟨k, m, ks, rfl, _⟩ := h
    rfl
  · obtain ⟨k, m, ks, rfl, hk, hk9, hm3, q⟩ := h
    have nd := scrows_of_lots.nd
    have hu := hu_of hr
    refine ⟨_, pss_cons (ps_set (i := 2) nd rfl (Or.inl rfl) (pe_lst (pa_cons (pe_tup pa_nil) pa_nil)))
      (pss_cons (ps_for PassesOwn.never rfl (pi_range1 (by rfl) B.range (pa_cons (pv 1) pa_nil)) (pg_name (i := 3) nd rfl (Or.inl rfl)) (pss_one (ps_setLc2 (vs1 := [5]) (i := 2) (own := [("one", 4), ("lot", 5)]) (by rfl) nd rfl rfl (sw_true rfl rfl rfl (by decide +kernel)) (pi_listK K (pv 2)) (blkOk_by (own := [("one", 4), ("lot", 5)]) (N := nrows_of_lots) (sc := defScope (top 9)) (by decide +kernel)) (by decide) (fun _ _ _ _ _ => pg_name (i := 4) nd rfl (Or.inl rfl)) (fun _ _ _ _ _ => pts_nil) (fun _ _ _ _ _ => pi_listK K (pv 0)) (fun _ _ _ _ _ => pg_name (i := 5) nd rfl (Or.inl rfl)) (fun _ _ _ _ _ => pts_nil) (fun _ _ _ _ _ => pe_tup (pa_starK K (pv 4) (pa_cons (pv 5) pa_nil))))))
      (pss_one (ps_ret (pv 2)))), ?_⟩
    have one_ : 1 ≤ sizeLine := by decide
    refine ⟨Nat.zero_le _, fun p0 hp0 => ⟨one_, fun l hl => ?_⟩⟩
    have s0 : Same H (upd (upd H p0 (.tup [])) l (.lst [.ref p0])) := (same_upd hp0).trans (same_upd hl)
    have hm' : ((m : Nat) : Int).toNat = m := Int.toNat_natCast m
    refine ⟨_, rfl, (m : Int), rfl, by omega, by omega, ?_⟩
    rw [hm']
    refine for_it (walk_range (lo := 0) (n := m)) (fun i σ H' => ∃ (p : Addr) (x : Option V) (rs : List V), σ = [some (.ref k), some (.int (m : Int)), some (.ref p), x, none, none] ∧ Same H H' ∧ H p = none ∧ H' p = some (.lst rs) ∧ Refs H' rs (tuples ks i))
      ⟨l, none, [.ref p0], rfl, s0, none_of (same_upd hp0) hl, upd_same, rfl, fun i t e => ?_⟩ (fun _ _ _ _ _ => trivial) (fun i x σ H1 H' hi pv y => ?_) fun σ H' pv => ?_
    · have hi0 : i = 0 := by
        have := (List.getElem?_eq_some_iff.mp e).1
        simp [tuples] at this
        exact this
      subst hi0
      cases e
      refine ⟨p0, rfl, ?_⟩
      rw [upd_ne]
      · exact upd_same
      · intro z
        rw [← z, upd_same] at hl
        cases hl
    · obtain ⟨p, x0, rs, rfl, sm, hp, hp', rf⟩ := pv
      obtain ⟨rfl, rfl⟩ := y
      have l9 := tuples_729 ks hk9 (n := i) (by omega)
      refine ⟨_, rfl, p, rfl, ⟨_, .inl (.inl hp')⟩, fun D hD => ?_⟩
      refine walk_it (walk_list (xs := rs)) (fun j H2 => Same H' H2 ∧ ∃ acc, H2 D = some (.lst acc) ∧ Refs H2 acc (((tuples ks i).take j).flatMap fun one => ks.map fun l => one ++ [l])) ⟨same_upd hD, [], upd_same, rfl, fun i t e => absurd e (by simp)⟩ (fun j H2 _ pv => pv.1.seq (.inl (.inl hp'))) (fun j x H2 H3 hj pv y => ?_) fun H2 pv => ?_
      · obtain ⟨s2, acc, ha, ra⟩ := pv
        obtain ⟨rfl, hx⟩ := y
        obtain ⟨one, ho⟩ : ∃ one, (tuples ks i)[j]? = some one := ⟨(tuples ks i)[j]'(by rw [← rf.len]; exact hj), by simp [← rf.len, hj]⟩
        obtain ⟨o, ho1, ho2⟩ := rf.at_ j one ho
        rw [hx] at ho1
        cases ho1
        refine ⟨rfl, _, rfl, k, rfl, ⟨_, (sm.trans s2).seq hk⟩, ?_⟩
        have jl : (((tuples ks i).take j).flatMap fun one => ks.map fun l => one ++ [l]).length ≤ 729 * 9 := by
          have h1 := flatMap_len (f := fun one : List (List Nat) => ks.map fun l => one ++ [l]) (n := 9) (l := (tuples ks i).take j) fun a _ => by
            rw [List.length_map]
            exact hk9
          rw [List.length_take] at h1
          have : min j (tuples ks i).length ≤ 729 := by omega
          omega
        refine walk_it (walk_list (xs := ks.map vS)) (fun n H5 => Same H' H5 ∧ ∃ acc, H5 D = some (.lst acc) ∧ Refs H5 acc (((tuples ks i).take j).flatMap (fun one => ks.map fun l => one ++ [l]) ++ (ks.take n).map fun l => one ++ [l])) ⟨s2, acc, ha, by simpa using ra⟩ (fun n H5 _ pv => (sm.trans pv.1).seq hk) (fun n x H5 H6 hn pv y => ?_) fun H5 pv => ?_
        · obtain ⟨s5, ac5, ha5, ra5⟩ := pv
          obtain ⟨rfl, hx⟩ := y
          obtain ⟨lot, hlot, rfl⟩ := map_take _ _ _ _ hx
          have one3 : one.length = i := ((mem_tuples ks i one).mp (List.mem_of_getElem? ho)).1
          refine ⟨rfl, _, rfl, o, _, rfl, SqT.of (s5 _ _ ho2), _, rfl, ?_, fun q hq => ?_⟩
          · rw [List.length_append, List.length_map]
            exact Nat.le_of_lt (small24 (by simp; omega))
          · have ne : D ≠ q := fun e => by
              rw [← e, ha5] at hq
              cases hq
            have al : ac5.length ≤ 729 * 9 + 9 := by
              rw [ra5.len, List.length_append, List.length_map, List.length_take]
              omega
            refine ⟨ac5, by rw [upd_ne ne]; exact ha5, small24 (by omega), same_f (s5.trans (same_upd hq)) hD, _, upd_same, ?_⟩
            have tk : (ks.take (n + 1)).map (fun l => one ++ [l]) = (ks.take n).map (fun l => one ++ [l]) ++ [one ++ [lot]] := by
              rw [List.take_add_one, hlot, List.map_append]
              rfl
            rw [tk, ← List.append_assoc]
            refine Refs.snoc (Refs.upd (ra5.same (same_upd hq)) (xs := ac5) (by rw [upd_ne ne]; exact ha5)) ?_
            rw [upd_ne (Ne.symm ne), upd_same, List.map_append]
            rfl
        · obtain ⟨s5, ac5, ha5, ra5⟩ := pv
          refine ⟨s5, ac5, ha5, ?_⟩
          have e : (ks.map vS).length = ks.length := List.length_map ..
          rw [e, List.take_length] at ra5
          rw [take_fl _ _ _ _ ho]
          exact ra5
      · obtain ⟨s2, acc, ha, ra⟩ := pv
        refine ⟨D, _, acc, rfl, sm.trans s2, none_of sm hD, ha, ?_⟩
        rw [rf.len, List.take_length] at ra
        exact ra
    · obtain ⟨p, x0, rs, rfl, sm, hp, hp', rf⟩ := pv
      exact ⟨_, rfl, q H' p rs sm hp hp' rf⟩
end
end K27W
/-! K27: shapes_by, all_tops. -/
namespace K27W
open PySem PySem.Spec PyProof.Rows L2 K27R
def kvm (kv : K27.KV) : List (Key × V) := kv.map fun p => (kT p.1, vS p.2)
theorem valV_kvm (l : List Nat) : ∀ kv : K27.KV, valV (kvm kv) (kT l) = (K27.aget kv l).map vS
  | [] => rfl
  | p :: r => by
    show valV ((kT p.1, vS p.2) :: kvm r) (kT l) = (if p.1 = l then some p.2 else K27.aget r l).map vS
    by_cases h : p.1 = l
    · rw [valV_pos (by rw [h]), if_pos h]
      rfl
    · rw [valV_neg (fun e => h (kT_inj e)), if_neg h]
      exact valV_kvm l r
theorem map_other {κ : Type} [DecidableEq κ] {k : κ} {v : V} : ∀ {l : List (κ × V)}, k ∉ l.map (·.1) → l.map (fun kv => if kv.1 = k then (kv.1, v) else kv) = l
  | [], _ => rfl
  | p :: r, h => by
    rw [List.map_cons, List.mem_cons] at h
    rw [List.map_cons, if_neg (fun e => h (.inl e.symm)), map_other fun x => h (.inr x)]
theorem put_first {l s : List Nat} : ∀ {kv : K27.KV}, (kv.map (·.1)).Nodup → (K27.aget kv l).isSome = true → (kvm kv).map (fun p => if p.1 = kT l then (p.1, vS s) else p) = kvm (K27.aput kv l s)
  | [], _, h => by cases h
  | p :: r, nd, h => by
    rw [List.map_cons, List.nodup_cons] at nd
    show (if kT p.1 = kT l then (kT p.1, vS s) else (kT p.1, vS p.2)) :: (kvm r).map (fun p => if p.1 = kT l then (p.1, vS s) else p) = kvm (if p.1 = l then (p.1, s) :: r else p :: K27.aput r l s)
    by_cases e : p.1 = l
    · rw [if_pos (by rw [e]), if_pos e, map_other]
      · rfl
      · intro hm
        obtain ⟨q, hq, eq⟩ := List.mem_map.mp hm
        obtain ⟨q', hq', rfl⟩ := List.mem_map.mp hq
        have := kT_inj eq
        rw [← e] at this
        exact nd.1 (List.mem_map.mpr ⟨q', hq', this⟩)
    · rw [if_neg (fun x => e (kT_inj x)), if_neg e, put_first nd.2]
      · rfl
      · show (K27.aget r l).isSome = true
        have h' : (if p.1 = l then some p.2 else K27.aget r l).isSome = true := h
        rwa [if_neg e] at h'
theorem putK_kvm {kv : K27.KV} (nd : (kv.map (·.1)).Nodup) (l s : List Nat) : putK (kvm kv) (kT l) (vS s) = kvm (K27.aput kv l s) := by
  unfold putK
  rw [valV_any, valV_kvm]
  cases e : K27.aget kv l with
  | none =>
    rw [K27.aput_new s e]
    show (if (Option.map vS none).isSome = true then _ else _) = _
    rw [if_neg (by simp)]
    unfold kvm
    rw [List.map_append]
    rfl
  | some t =>
    show (if true = true then _ else _) = _
    rw [if_pos rfl]
    exact put_first nd (by rw [e]; rfl)
noncomputable def lapi (g : K27.Grid) (kv : K27.KV) (T : List (List (List Nat))) (i : Nat) : K27.KV × Bool := K27.lap g (kv, false) (T.take i)
theorem lapi_succ {g : K27.Grid} {kv : K27.KV} {T : List (List (List Nat))} {i : Nat} {ls : List (List Nat)} (h : T[i]? = some ls) : lapi g kv T (i + 1) = K27.step g (lapi g kv T i) ls := by
  unfold lapi K27.lap
  rw [List.take_add_one, h, List.foldl_append]
  rfl
theorem lap_tu {g : K27.Grid} {ms : List (List Nat)} : ∀ {T : List (List (List Nat))} {st : K27.KV × Bool}, K27.Tu g st.1 ms → K27.Tu g (K27.lap g st T).1 ms
  | [], _, h => h
  | ls :: T, st, h => lap_tu (T := T) (K27.Tu.step (ls := ls) h)
theorem lapi_ok {g : K27.Grid} (ok : g.Ok) {kv : K27.KV} {T : List (List (List Nat))} (I : K27.Inv g kv) (A : K27.All g kv T) (i : Nat) : K27.Inv g (lapi g kv T i).1 ∧ ∀ ls ∈ T, K27.Tu g (lapi g kv T i).1 ls :=
  ⟨K27.lap_inv ok (st := (kv, false)) I fun ls hl => A.tu ls (List.mem_of_mem_take hl), fun ls hl => lap_tu (A.tu ls hl)⟩
theorem all_of {g : K27.Grid} {kv : K27.KV} {ks : List (List Nat)} (hk : ∀ l, l ∈ ks ↔ ∃ s, K27.aget kv l = some s) : K27.All g kv (tuples ks g.w) := by
  constructor
  · intro ls h
    obtain ⟨h1, h2⟩ := (mem_tuples ks _ ls).mp h
    exact ⟨h1, fun l hl => (hk l).mp (h2 l hl)⟩
  · intro ls h
    exact (mem_tuples ks _ ls).mpr ⟨h.1, fun l hl => (hk l).mpr (h.2 l hl)⟩
theorem keys_iff (kv : K27.KV) (l : List Nat) : l ∈ kv.map (·.1) ↔ ∃ s, K27.aget kv l = some s := by
  constructor
  · exact fun h => K27.aget_some h
  · rintro ⟨s, h⟩
    exact List.mem_map.mpr ⟨_, K27.aget_mem h, rfl⟩
theorem bn9 : K27.bn 9 = 29524 := by decide
theorem sh_len {g : K27.Grid} (ok : g.Ok) {kv : K27.KV} (I : K27.Inv g kv) {ls : List (List Nat)} (h : K27.Tu g kv ls) : (K27.shOf kv ls).length ≤ 29524 := by
  have h1 := K27.Tu.len ok I h
  have h2 := K27.bn_mono (I.len ok)
  rw [bn9] at h2
  omega
/-- tops: known answers by the tuple -/
def TV (g : K27.Grid) (tv : List (List Key × V)) : Prop := ∀ (ls : List (List Nat)) v, valV tv (ls.map kT) = some v → v = vS (g.F ls)
def letKs : Key → List Nat
  | .inr s => cps s
  | .inl _ => []
theorem kT_map_inj {a b : List (List Nat)} (h : a.map kT = b.map kT) : a = b := by
  have e : ∀ l : List (List Nat), (l.map kT).map letKs = l := fun l => by
    rw [List.map_map]
    exact List.map_id l
  have := congrArg (List.map letKs) h
  rwa [e, e] at this
theorem TV.put {g : K27.Grid} {tv : List (List Key × V)} (h : TV g tv) (ls : List (List Nat)) : TV g (putK tv (ls.map kT) (vS (g.F ls))) := by
  intro ms v e
  rw [valV_put] at e
  by_cases hm : ms.map kT = ls.map kT
  · rw [if_pos hm] at e
    cases e
    rw [kT_map_inj hm]
  · rw [if_neg hm] at e
    exact h ms v e
abbrev nshapes_by : List Str := ["table", "risen", "many", "orders", "known", "tops", "lots", "shape", "lot"]
theorem scshapes_by : FnScope nshapes_by ["table"] (defScope (top 11)) := ⟨rfl, rfl, rfl, by decide +kernel, rfl, by decide +kernel, by decide +kernel⟩
def spShp (K : PySem.W.Frag) : Sp := fun vs H Q _ => ∃ (a : Addr) (g : K27.Grid), vs = [.ref a] ∧ GridAt K H a g ∧ Good g ∧ ∀ H' kn kv, Same H H' → H' kn = some (.dK (kvm kv)) → K27.Inv g kv → K27.mu g kv = 0 → Q (.ref kn) H'
theorem tup_kT (ls : List (List Nat)) : ls.map vS = (ls.map kT).map kV := by
  rw [List.map_map]
  rfl
theorem Refs.ne {H : Hp} {D : Addr} {o : HO} {rs : List V} {T : List (List (List Nat))} (h : Refs H rs T) (hD : ∀ xs, H D ≠ some (.tup xs)) : Refs (L2.upd H D o) rs T :=
  ⟨h.len, fun i t e => let ⟨q, h1, h2⟩ := h.at_ i t e; ⟨q, h1, by
    rw [upd_ne]
    · exact h2
    · intro z
      rw [z] at h2
      exact hD _ h2⟩⟩
/-- one lap's state of the heap -/
structure LapS (Hb H : Hp) (kn tp p : Addr) (g : K27.Grid) (kv : K27.KV) (tv : List (List Key × V)) (rs : List V) (T : List (List (List Nat))) : Prop where
  sm : Same Hb H
  kn0 : Hb kn = none
  tp0 : Hb tp = none
  hk : H kn = some (.dK (kvm kv))
  ht : H tp = some (.dT tv)
  tv_ : TV g tv
  hp : H p = some (.lst rs)
  rf : Refs H rs T
theorem LapS.same {Hb H H' : Hp} {kn tp p : Addr} {g : K27.Grid} {kv : K27.KV} {tv : List (List Key × V)} {rs : List V} {T : List (List (List Nat))} (h : LapS Hb H kn tp p g kv tv rs T) (s : Same H H') : LapS Hb H' kn tp p g kv tv rs T :=
  ⟨h.sm.trans s, h.kn0, h.tp0, s _ _ h.hk, s _ _ h.ht, h.tv_, s _ _ h.hp, h.rf.same s⟩
theorem LapS.putT {Hb H : Hp} {kn tp p : Addr} {g : K27.Grid} {kv : K27.KV} {tv : List (List Key × V)} {rs : List V} {T : List (List (List Nat))} (h : LapS Hb H kn tp p g kv tv rs T) (ls : List (List Nat)) :
    LapS Hb (L2.upd H tp (.dT (putK tv (ls.map kT) (vS (g.F ls))))) kn tp p g kv (putK tv (ls.map kT) (vS (g.F ls))) rs T := by
  have n1 : kn ≠ tp := fun e => by
    have := h.hk
    rw [e, h.ht] at this
    cases this
  have n2 : p ≠ tp := fun e => by
    have := h.hp
    rw [e, h.ht] at this
    cases this
  exact ⟨same_f h.sm h.tp0, h.kn0, h.tp0, by rw [upd_ne n1]; exact h.hk, upd_same, h.tv_.put ls, by rw [upd_ne n2]; exact h.hp, h.rf.ne fun xs e => by rw [h.ht] at e; cases e⟩
theorem LapS.putK {Hb H : Hp} {kn tp p : Addr} {g : K27.Grid} {kv : K27.KV} {tv : List (List Key × V)} {rs : List V} {T : List (List (List Nat))} (h : LapS Hb H kn tp p g kv tv rs T) (kv' : K27.KV) :
    LapS Hb (L2.upd H kn (.dK (kvm kv'))) kn tp p g kv' tv rs T := by
  have n1 : tp ≠ kn := fun e => by
    have := h.ht
    rw [e, h.hk] at this
    cases this
  have n2 : p ≠ kn := fun e => by
    have := h.hp
    rw [e, h.hk] at this
    cases this
  exact ⟨same_f h.sm h.kn0, h.kn0, h.tp0, upd_same, by rw [upd_ne n1]; exact h.ht, h.tv_, by rw [upd_ne n2]; exact h.hp, h.rf.ne fun xs e => by rw [h.hk] at e; cases e⟩
section
variable {P : Program} {w : World} {K : PySem.W.Frag} {mg : Str → Option Value} {base : Heap}
theorem c_shapes_by {f : Addr} {fd : FuncData} (F : FnP K "shapes_by" 11 f fd) (hm : mg "shapes_by" = some (.ref f)) (B : Free mg) (C_orders_by : Cal P w K mg base 3 "orders_by" (spOby K)) (C_labels_in : Cal P w K mg base 2 "labels_in" (spLab K))
    (C_rows_of_lots : Cal P w K mg base 1 "rows_of_lots" (spRol K)) (C_tops_above : Cal P w K mg base 2 "tops_above" (spTop K)) (C_is_less : Cal P w K mg base 1 "is_less" spLess) : Cal P w K mg base 4 "shapes_by" (spShp K) := by
  refine cal_of F hm scshapes_by (fun _ _ _ _ _ _ us hl => match us, hl with | [_], _ => rfl) (fun vs H Q E h => ?_) (fun cdv A outer s H vs Q E hr h => ?_)
  · obtain ⟨a, g, rfl, _⟩ := h
    rfl
  · obtain ⟨a, g, rfl, hg, ok, q⟩ := h
    obtain ⟨r, h1, h2⟩ := hg.ex
    have nd := scshapes_by.nd
    have hu := hu_of hr
    refine ⟨_, pss_cons (ps_par (i := 2) (j := 3) (by rfl) nd rfl rfl (by decide) rfl rfl (pa_cons (pe_ix (ix_tupK K) (pv 0) pe_int (fun _ _ => rfl)) (pa_cons (pe_c C_orders_by hr (by decide) (pa_cons (pe_ix (ix_tupK K) (pv 0) pe_int (fun _ _ => rfl)) pa_nil)) pa_nil)) (by rfl))
      (pss_cons (ps_asg (pe_tup (pa_cons (pe_disp (pps_cons (pe_c C_labels_in hr (by decide) (pa_cons (pv 0) pa_nil)) pe_str pps_nil) (by rfl) (by rfl) (fun z => by cases z) (by decide)) (pa_cons pe_dnewT pa_nil))) (pg_tupK K (by rfl) (pgs_cons (pg_name (i := 4) nd rfl (Or.inr rfl)) (pgs_cons (pg_name (i := 5) nd rfl (Or.inl rfl)) pgs_nil))))
      (pss_cons (ps_set (i := 1) nd rfl (Or.inl rfl) pe_bl)
      (pss_cons (ps_while PassesOwn.never (pt_val (pv 1)) (pss_cons (ps_set (i := 1) nd rfl (Or.inl rfl) pe_bl)
        (pss_one (ps_for PassesOwn.never rfl (pi_listK K (pe_c C_rows_of_lots hr (by decide) (pa_cons (pe_callTy (call_listD rfl) (by rfl) B.list (by decide +kernel) (pa_cons (pv 4) pa_nil)) (pa_cons (pv 2) pa_nil)))) (pg_name (i := 6) nd rfl (Or.inl rfl)) (C8.pss_cut (ps_if (pt_cmp (pc_dnotin hu (pv 6) (pv 5))) (pss_one (ps_dput hu (pv 5) (pv 6) (pe_c C_tops_above hr (by decide) (pa_cons (pv 3) (pa_cons (pv 6) pa_nil))) rfl)) pss_nil)
          (pss_cons (ps_set (i := 7) nd rfl (Or.inl rfl) (pe_op op_add_str pe_str (pe_j0 K (pe_lc (own := [("lot", 8)]) (g := gName 8) (by rfl) nd (pi_tupK K (pv 6)) (blkOk_by (own := [("lot", 8)]) (N := nshapes_by) (sc := defScope (top 11)) (by decide +kernel)) (fun _ _ _ _ _ => pg_name (i := 8) nd rfl (Or.inl rfl)) (fun _ _ _ _ _ => pts_nil) (fun _ _ _ _ _ => pe_dget hu (pv 4) (pv 8) (fun _ _ => rfl))))))
          (pss_one (ps_if (pt_val (pe_c C_is_less hr (by decide) (pa_cons (pv 7) (pa_cons (pe_dget1 hu (pv 4) (pe_dget hu (pv 5) (pv 6) (fun _ _ => rfl)) ⟨rfl, rfl, rfl, rfl⟩) pa_nil)))) (pss_cons (ps_dput hu (pv 4) (pe_dget hu (pv 5) (pv 6) (fun _ _ => rfl)) (pv 7) rfl)
            (pss_one (ps_set (i := 1) nd rfl (Or.inl rfl) pe_bl))) pss_nil))))))))
      (pss_one (ps_ret (pv 4)))))), ?_⟩
    have hw := ok.ok.w23
    refine ⟨_, rfl, _, _, _, _, rfl, rfl, h1, rfl, _, rfl, _, _, _, _, rfl, rfl, h1, rfl, r, g, rfl, h2, ok, fun Hb d okv sb wd => ⟨_, _, rfl, ?_⟩⟩
    have two : 2 ≤ sizeLine := by decide
    intro kn hkn
    refine ⟨_, rfl, a, g, rfl, (hg.same sb).same (same_upd hkn), ok, fun H2 s2 => ⟨s2 _ _ upd_same, [(kT g.let_, vS [46])], rfl, Nat.le_of_ble_eq_true rfl, ?_⟩⟩
    intro tp htp
    refine ⟨two, fun tq htq => ?_⟩
    refine ⟨tq, _, rfl, SqT.of upd_same, rfl, _, _, rfl, _, _, rfl, rfl, ?_⟩
    have hk1 : upd H2 kn (.dK (mergeK [] [(kT g.let_, vS [46])])) kn = some (.dK (kvm [(g.let_, [46])])) := upd_same
    have htk : tp ≠ kn := fun e => by
      rw [e, upd_same] at htp
      cases htp
    have sHb : Same Hb (upd (upd (upd H2 kn (.dK (mergeK [] [(kT g.let_, vS [46])]))) tp (.dT [])) tq (.tup [.ref kn, .ref tp])) :=
      ((same_f ((same_upd hkn).trans s2) hkn).trans (same_upd htp)).trans (same_upd htq)
    have tp0 : Hb tp = none := none_of (same_f ((same_upd hkn).trans s2) hkn) htp
    have nkq : kn ≠ tq := fun e => by
      rw [← e, upd_ne (Ne.symm htk), upd_same] at htq
      cases htq
    have ntq : tp ≠ tq := fun e => by
      rw [← e, upd_same] at htq
      cases htq
    refine ⟨fun m σ H => ∃ (rb : Bool) (kv : K27.KV) (tv : List (List Key × V)) (x6 x7 : Option V), σ = [some (.ref a), some (.bl rb), some (.int g.w), some (.ref d), some (.ref kn), some (.ref tp), x6, x7, none] ∧ Same Hb H ∧
      H kn = some (.dK (kvm kv)) ∧ H tp = some (.dT tv) ∧ TV g tv ∧ K27.Inv g kv ∧ m = (if rb = true then K27.mu g kv + 1 else 0) ∧ (rb = false → K27.mu g kv = 0) ∧ (rb = true → tv.length + 729 * K27.mu g kv ≤ 6561),
      ⟨_, true, [(g.let_, [46])], [], none, none, rfl, sHb, ?_, ?_, fun ls v e => absurd e (by simp [valV_nil]), K27.inv0 ok.ok, rfl, (fun z => nomatch z), fun _ => ?_⟩, ?_⟩
    · rw [upd_ne nkq, upd_ne (Ne.symm htk)]
      exact hk1
    · rw [upd_ne ntq]
      exact upd_same
    · have := K27.mu_le ok.ok (g := g) [(g.let_, [46])]
      show 0 + _ ≤ _
      omega
    rintro m σ H3 ⟨rb, kv, tv, x6, x7, rfl, sm, hk, ht, htv, I, rfl, hf, hb⟩
    refine ⟨_, rfl, rb, rfl, ?_⟩
    cases rb with
    | false => exact iteF ⟨_, rfl, q H3 kn kv (sb.trans sm) hk I (hf rfl)⟩
    | true =>
      refine iteT ⟨fun σ' H' => ∃ m', m' < K27.mu g kv + 1 ∧ ∃ (rb : Bool) (kv : K27.KV) (tv : List (List Key × V)) (x6 x7 : Option V), σ' = [some (.ref a), some (.bl rb), some (.int g.w), some (.ref d), some (.ref kn), some (.ref tp), x6, x7, none] ∧ Same Hb H' ∧
      H' kn = some (.dK (kvm kv)) ∧ H' tp = some (.dT tv) ∧ TV g tv ∧ K27.Inv g kv ∧ m' = (if rb = true then K27.mu g kv + 1 else 0) ∧ (rb = false → K27.mu g kv = 0) ∧ (rb = true → tv.length + 729 * K27.mu g kv ≤ 6561), fun _ _ h => h, ?_⟩
      have hb := hb rfl
      have kl := I.len ok.ok
      have hkeys : ((kvm kv).map fun kv => kV kv.1) = (kv.map (·.1)).map vS := by
        unfold kvm
        rw [List.map_map, List.map_map]
        rfl
      refine ⟨_, rfl, kn, kvm kv, rfl, .inl hk, fun l hl => ⟨_, rfl, l, g.w, kv.map (·.1), rfl, SqL.of (by rw [← hkeys]; exact upd_same), by rw [List.length_map]; omega, by omega, fun H4 p rs s4 hp0 hp rf => ⟨p, rfl, ⟨_, SqL.of hp⟩, ?_⟩⟩⟩
      have A : K27.All g kv (tuples (kv.map (·.1)) g.w) := all_of (keys_iff kv)
      have T729 := tuples_729 (kv.map (·.1)) (by rw [List.length_map]; exact kl) (n := g.w) (by omega)
      have s34 : Same H3 H4 := (same_upd hl).trans s4
      generalize hT : tuples (kv.map (·.1)) g.w = T at *
      refine for_it (walk_list (xs := rs)) (fun i σ H => ∃ (tv' : List (List Key × V)) (x6 x7 : Option V), σ = [some (.ref a), some (.bl (lapi g kv T i).2), some (.int g.w), some (.ref d), some (.ref kn), some (.ref tp), x6, x7, none] ∧ LapS Hb H kn tp p g (lapi g kv T i).1 tv' rs T ∧ tv'.length ≤ tv.length + i)
        ⟨tv, x6, x7, rfl, ⟨sm.trans s34, hkn, tp0, s34 _ _ hk, s34 _ _ ht, htv, hp, rf⟩, Nat.le_refl _⟩ (fun i σ H _ pv => let ⟨_, _, _, _, L, _⟩ := pv; SqL.of L.hp) (fun i x σ H5 H6 hi pv y => ?_) fun σ H5 pv => ?_
      · obtain ⟨tv1, y6, y7, rfl, L, tl⟩ := pv
        obtain ⟨rfl, hx⟩ := y
        obtain ⟨ls, hls⟩ : ∃ ls, T[i]? = some ls := ⟨T[i]'(by rw [← rf.len]; exact hi), by simp [← rf.len, hi]⟩
        obtain ⟨qa, hq1, hq2⟩ := L.rf.at_ i ls hls
        rw [hx] at hq1
        cases hq1
        have hTl : i < T.length := by rw [← rf.len]; exact hi
        obtain ⟨Ii, Ti⟩ := lapi_ok ok.ok I A i
        have tu := Ti ls (List.mem_of_getElem? hls)
        refine ⟨fun σ' H' => ∃ tv2, σ' = [some (.ref a), some (.bl (lapi g kv T i).2), some (.int g.w), some (.ref d), some (.ref kn), some (.ref tp), some (.ref qa), y7, none] ∧ LapS Hb H' kn tp p g (lapi g kv T i).1 tv2 rs T ∧ tv2.length ≤ tv.length + i + 1 ∧ H' qa = some (.tup (ls.map vS)) ∧ valV tv2 (ls.map kT) = some (vS (g.F ls)), ?_, ?_⟩
        · refine ⟨_, rfl, _, rfl, tp, _, rfl, DGet.t L.ht (k := ls.map kT) (by rw [← tup_kT]; exact hq2), _, rfl, ?_⟩
          cases e : valV tv1 (ls.map kT) with
          | some v =>
            refine iteF ⟨tv1, rfl, L, by omega, hq2, ?_⟩
            rw [e, L.tv_ ls v e]
          | none =>
            refine iteT ⟨_, rfl, _, rfl, d, qa, g, okv, ls, rfl, wd.same L.sm, SqT.of hq2, tu.1, ok, fun H7 s7 => ?_⟩
            have L7 := L.same s7
            refine ⟨_, rfl, _, rfl, tp, _, rfl, DPut.t L7.ht (k := ls.map kT) (by rw [← tup_kT]; exact s7 _ _ hq2) (small24 (by omega)), ?_⟩
            refine ⟨_, rfl, L7.putT ls, ?_, ?_, by rw [valV_put, if_pos rfl]⟩
            · have := length_putK tv1 (ls.map kT) (vS (g.F ls))
              omega
            · rw [upd_ne]
              · exact s7 _ _ hq2
              · intro e
                rw [e, L.ht] at hq2
                cases hq2
        · rintro σ' H7 ⟨tv2, rfl, L7, tl2, hq7, hv⟩
          have sl := sh_len ok.ok Ii tu
          refine ⟨⟨_, rfl⟩, _, rfl, qa, rfl, ⟨_, SqT.of hq7⟩, fun D hD => ?_⟩
          refine lc_fl (walk_tup (xs := ls.map vS)) ls (fun l => some (vS ((K27.aget (lapi g kv T i).1 l).getD []))) (by rw [List.length_map]) (by rw [List.length_map, tu.1]; omega) hD (fun H' s' => same_seqT s' (SqT.of hq7)) (fun j l x H8 H9 Qy Qn hj hl s8 _ yl qy _ => ?_) fun H8 s8 h8 => ?_
          · obtain ⟨rfl, hx⟩ := yl
            obtain ⟨l', hl', rfl⟩ := map_take _ _ _ _ hx
            rw [hl'] at hl
            cases hl
            obtain ⟨s, es⟩ := tu.2 l (List.mem_of_getElem? hl')
            have dg := DGet.k (k := kT l) (s8 _ _ L7.hk)
            rw [valV_kvm, es] at dg
            refine ⟨rfl, _, rfl, _, rfl, kn, vS s, rfl, dg, qy _ _ ?_ (Same.refl _)⟩
            rw [es]
            rfl
          · rw [fm_some] at h8
            have plus : (Str.ofString "+" : Str) = S [43] := by decide +kernel
            have shl : (ls.map fun l => (K27.aget (lapi g kv T i).1 l).getD []).flatten.length + 1 ≤ 29524 := by
              have e : (K27.shOf (lapi g kv T i).1 ls).length = (ls.map fun l => (K27.aget (lapi g kv T i).1 l).getD []).flatten.length + 1 := List.length_cons
              omega
            refine ⟨D, ls.map fun l => (K27.aget (lapi g kv T i).1 l).getD [], rfl, rfl, .inl (SqL.of (by rw [h8, List.map_map]; rfl)), by omega, _, _, rfl, rfl, ?_, ?_⟩
            · rw [plus, S_len, S_len]
              exact Nat.le_of_lt (small24 (by show 1 + _ ≤ _; omega))
            · have esh : (Str.ofString "+" : Str) ++ S (ls.map fun l => (K27.aget (lapi g kv T i).1 l).getD []).flatten = S (K27.shOf (lapi g kv T i).1 ls) := by
                rw [plus, S_cat]
                rfl
              rw [esh]
              have L8 := L7.same s8
              have hq8 := s8 _ _ hq7
              have dgT : DGet H8 tp (.ref qa) (some (vS (g.F ls))) := by
                have := DGet.t L8.ht (k := ls.map kT) (by rw [← tup_kT]; exact hq8)
                rwa [hv] at this
              have dgK : DGet H8 kn (kV (kT (g.F ls))) ((K27.aget (lapi g kv T i).1 (g.F ls)).map vS) := by
                have := DGet.k (k := kT (g.F ls)) L8.hk
                rwa [valV_kvm] at this
              refine ⟨_, rfl, _, rfl, kn, rfl, .inl ⟨_, .inl L8.hk⟩, _, rfl, _, rfl, tp, _, rfl, dgT, _, dgK, ?_⟩
              refine ⟨K27.shOf (lapi g kv T i).1 ls, K27.aget (lapi g kv T i).1 (g.F ls), rfl, by omega, fun t et => ?_, fun H9 s9 => ⟨_, rfl, ?_⟩⟩
              · have := Ii.short ok.ok et
                omega
              have L9 := L8.same s9
              have hq9 := s9 _ _ hq8
              -- the known shape is put
              have put : K27.step g (lapi g kv T i) ls = (K27.aput (lapi g kv T i).1 (g.F ls) (K27.shOf (lapi g kv T i).1 ls), true) →
                ∃ (tv' : List (List Key × V)) (x6 x7 : Option V), ([some (.ref a), some (.bl true), some (.int g.w), some (.ref d), some (.ref kn), some (.ref tp), some (.ref qa), some (vS (K27.shOf (lapi g kv T i).1 ls)), none] : L2.St) = [some (.ref a), some (.bl (lapi g kv T (i + 1)).2), some (.int g.w), some (.ref d), some (.ref kn), some (.ref tp), x6, x7, none] ∧
                  LapS Hb (upd H9 kn (.dK (putK (kvm (lapi g kv T i).1) (kT (g.F ls)) (vS (K27.shOf (lapi g kv T i).1 ls))))) kn tp p g (lapi g kv T (i + 1)).1 tv' rs T ∧ tv'.length ≤ tv.length + (i + 1) := fun est => by
                refine ⟨tv2, some (.ref qa), some (vS (K27.shOf (lapi g kv T i).1 ls)), ?_, ?_, by omega⟩
                · rw [lapi_succ hls, est]
                · rw [lapi_succ hls, est, putK_kvm Ii.nd]
                  exact L9.putK _
              have dgT9 : DGet H9 tp (.ref qa) (some (vS (g.F ls))) := by
                have := DGet.t L9.ht (k := ls.map kT) (by rw [← tup_kT]; exact hq9)
                rwa [hv] at this
              have kl9 : (kvm (lapi g kv T i).1).length ≤ 9 := by
                unfold kvm
                rw [List.length_map]
                exact Ii.len ok.ok
              have keep : K27.step g (lapi g kv T i) ls = lapi g kv T i →
                ∃ (tv' : List (List Key × V)) (x6 x7 : Option V), ([some (.ref a), some (.bl (lapi g kv T i).2), some (.int g.w), some (.ref d), some (.ref kn), some (.ref tp), some (.ref qa), some (vS (K27.shOf (lapi g kv T i).1 ls)), none] : L2.St) = [some (.ref a), some (.bl (lapi g kv T (i + 1)).2), some (.int g.w), some (.ref d), some (.ref kn), some (.ref tp), x6, x7, none] ∧
                  LapS Hb H9 kn tp p g (lapi g kv T (i + 1)).1 tv' rs T ∧ tv'.length ≤ tv.length + (i + 1) := fun est => by
                refine ⟨tv2, some (.ref qa), some (vS (K27.shOf (lapi g kv T i).1 ls)), ?_, ?_, by omega⟩
                · rw [lapi_succ hls, est]
                · rw [lapi_succ hls, est]
                  exact L9
              rcases K27.step_cases (g := g) (lapi g kv T i) ls with ⟨est, t, et, hnl⟩ | ⟨est, hc⟩
              · rw [et]
                show if decide (K27.less _ t) = true then _ else _
                rw [decide_eq_false hnl]
                exact iteF (keep est)
              · rcases hc with hc | ⟨t, hc, hl⟩
                · rw [hc]
                  exact iteT ⟨_, rfl, _, rfl, _, rfl, _, rfl, tp, _, rfl, dgT9, kn, _, rfl, DPut.k (k := kT (g.F ls)) L9.hk (small24 (by omega)), put est⟩
                · rw [hc]
                  show if decide (K27.less _ t) = true then _ else _
                  rw [decide_eq_true hl]
                  exact iteT ⟨_, rfl, _, rfl, _, rfl, _, rfl, tp, _, rfl, dgT9, kn, _, rfl, DPut.k (k := kT (g.F ls)) L9.hk (small24 (by omega)), put est⟩
      · obtain ⟨tv1, y6, y7, rfl, L, tl⟩ := pv
        have eT : lapi g kv T rs.length = K27.lap g (kv, false) T := by
          unfold lapi
          rw [rf.len, List.take_length]
        rw [eT] at L ⊢
        obtain ⟨m1, m2, m3⟩ := K27.lap_main ok.ok I A
        refine ⟨_, ?_, (K27.lap g (kv, false) T).2, (K27.lap g (kv, false) T).1, tv1, y6, y7, rfl, L.sm, L.hk, L.ht, L.tv_, m1, rfl, fun h => ?_, fun h => ?_⟩
        · cases h : (K27.lap g (kv, false) T).2 with
          | true =>
            have := m2 h
            rw [if_pos rfl]
            omega
          | false =>
            rw [if_neg (by decide)]
            omega
        · obtain ⟨e, h0⟩ := m3 h
          rw [e]
          exact h0
        · have := m2 h
          have h9 := rf.len
          omega
end
end K27W
/-! K27: all_tops. -/
namespace K27W
open PySem PySem.Spec PyProof.Rows L2 K27R
/-- the due answer -/
structure IsRes (g : K27.Grid) (R : List (List Nat × List Nat)) : Prop where
  asc : K27.AscG K27.ltL (R.map (·.1))
  iff_ : ∀ l s, (l, s) ∈ R ↔ K27.Mn g l s
theorem pairs_eq : ∀ {R R' : List (List Nat × List Nat)}, R.map (·.1) = R'.map (·.1) → (∀ l s s', (l, s) ∈ R → (l, s') ∈ R' → s = s') → R = R'
  | [], [], _, _ => rfl
  | [], _ :: _, h, _ => by cases h
  | _ :: _, [], h, _ => by cases h
  | (l, s) :: R, (l', s') :: R', h, f => by
    rw [List.map_cons, List.map_cons] at h
    have h1 : l = l' := (List.cons.inj h).1
    subst h1
    have h2 := f l s s' List.mem_cons_self List.mem_cons_self
    rw [h2, pairs_eq (List.cons.inj h).2 fun m t t' a b => f m t t' (List.mem_cons_of_mem _ a) (List.mem_cons_of_mem _ b)]
theorem IsRes.uniq {g : K27.Grid} {R R' : List (List Nat × List Nat)} (h : IsRes g R) (h' : IsRes g R') : R = R' := by
  refine pairs_eq (K27.asc_ext K27.linL h.asc h'.asc fun l => ?_) fun l s s' a b => K27.Mn.uniq ((h.iff_ l s).mp a) ((h'.iff_ l s').mp b)
  constructor
  · intro x
    obtain ⟨p, hp, rfl⟩ := List.mem_map.mp x
    exact List.mem_map.mpr ⟨p, (h'.iff_ p.1 p.2).mpr ((h.iff_ p.1 p.2).mp hp), rfl⟩
  · intro x
    obtain ⟨p, hp, rfl⟩ := List.mem_map.mp x
    exact List.mem_map.mpr ⟨p, (h.iff_ p.1 p.2).mpr ((h'.iff_ p.1 p.2).mp hp), rfl⟩
def resOf (kv : K27.KV) (ks : List (List Nat)) : List (List Nat × List Nat) := ks.map fun l => (l, (K27.aget kv l).getD [])
theorem res_fst (kv : K27.KV) (ks : List (List Nat)) : (resOf kv ks).map (·.1) = ks := by
  unfold resOf
  rw [List.map_map]
  exact List.map_id ks
theorem isRes {g : K27.Grid} {kv : K27.KV} (I : K27.Inv g kv) (h0 : K27.mu g kv = 0) : IsRes g (resOf kv (K27.sdL (kv.map (·.1)))) := by
  refine ⟨by rw [res_fst]; exact K27.asc_sdG K27.linL _, fun l s => ?_⟩
  rw [← K27.final I h0]
  unfold resOf
  rw [List.mem_map]
  constructor
  · rintro ⟨m, hm, e⟩
    obtain ⟨t, et⟩ := (keys_iff kv m).mp ((K27.mem_sdG m _).mp hm)
    cases e
    rw [et]
    rfl
  · intro e
    refine ⟨l, (K27.mem_sdG l _).mpr ((keys_iff kv l).mpr ⟨s, e⟩), ?_⟩
    rw [e]
    rfl
structure PairsAt (H : Hp) (p : Addr) (R : List (List Nat × List Nat)) : Prop where
  ex : ∃ rs, H p = some (.tup rs) ∧ rs.length = R.length ∧ ∀ (i : Nat) l s, R[i]? = some (l, s) → ∃ q, rs[i]? = some (.ref q) ∧ H q = some (.tup [vS l, vS s])
theorem PairsAt.same {H H' : Hp} {p : Addr} {R : List (List Nat × List Nat)} (h : PairsAt H p R) (s : Same H H') : PairsAt H' p R :=
  let ⟨rs, h1, h2, h3⟩ := h.ex
  ⟨rs, s _ _ h1, h2, fun i l t e => let ⟨q, g1, g2⟩ := h3 i l t e; ⟨q, g1, s _ _ g2⟩⟩
theorem pairs_of {H : Hp} {D l : Addr} {ys : List V} {kv : K27.KV} {ks : List (List Nat)} (hl : H l = none) (h1 : ys.length = ks.length)
    (h2 : ∀ (i : Nat) a y, ks[i]? = some a → ys[i]? = some y → ∃ q, y = V.ref q ∧ q ≠ D ∧ H q = some (.tup [vS a, vS ((K27.aget kv a).getD [])])) : PairsAt (upd H l (.tup ys)) l (resOf kv ks) := by
  refine ⟨ys, upd_same, by rw [h1]; unfold resOf; rw [List.length_map], fun i m s e => ?_⟩
  unfold resOf at e
  obtain ⟨a, ha, e2⟩ := map_take _ _ _ _ e
  cases e2
  have hi : i < ys.length := by
    rw [h1]
    exact (List.getElem?_eq_some_iff.mp ha).1
  obtain ⟨q, hq, _, hh⟩ := h2 i m ys[i] ha (List.getElem?_eq_getElem hi)
  refine ⟨q, by rw [List.getElem?_eq_getElem hi, hq], ?_⟩
  rw [upd_ne]
  · exact hh
  · intro z
    rw [z, hl] at hh
    cases hh
abbrev nall_tops : List Str := ["table", "known", "lot"]
theorem scall_tops : FnScope nall_tops ["table"] (defScope (top 12)) := ⟨rfl, rfl, rfl, by decide +kernel, rfl, by decide +kernel, by decide +kernel⟩
def spAll (K : PySem.W.Frag) : Sp := fun vs H Q _ => ∃ (a : Addr) (g : K27.Grid), vs = [.ref a] ∧ GridAt K H a g ∧ Good g ∧ ∀ H' p R, Same H H' → PairsAt H' p R → IsRes g R → Q (.ref p) H'
section
variable {P : Program} {w : World} {K : PySem.W.Frag} {mg : Str → Option Value} {base : Heap}
theorem ok_of {x : Str} {i : Nat} {f : Addr} {fd : FuncData} {N ps : List Str} {k : Nat} {sp : Sp} (F : FnP K x i f fd) (C : FnScope N ps (defScope (top i)))
    (len : ∀ vs H Q E, sp vs H Q E → vs.length = ps.length)
    (walk : ∀ (cdv : Value) (A : Around) (outer : List Env) (s : Shared) (H : Hp) (vs : List V) (Q : VK) (E : XK), Room k (A.deeper (envOfC x (defScope (top i)) s.heap.objs.size f cdv)) → sp vs H Q E →
      ∃ t, PSs (cxOf CX0 P w K mg base N x (defScope (top i)) f cdv A outer s H E).nox (defBody (top i)) t ∧ t { nx := fun _ H' => Q .non H', rt := Q } (start N vs) H) : FnOk P w K mg base CX0 (k + 1) f fd ps sp :=
  F.ok C len (fun cdv A outer s H vs Q E hr h => let ⟨t, h1, h2⟩ := walk cdv A outer s H vs Q E hr h; ⟨t, PSs.nox h1, h2⟩)
theorem ok_all_tops {f : Addr} {fd : FuncData} (F : FnP K "all_tops" 12 f fd) (B : Free mg) (C_shapes_by : Cal P w K mg base 4 "shapes_by" (spShp K)) : FnOk P w K mg base CX0 5 f fd ["table"] (spAll K) := by
  refine ok_of F scall_tops (fun vs H Q E h => ?_) (fun cdv A outer s H vs Q E hr h => ?_)
  · obtain ⟨a, g, rfl, _⟩ := h
    rfl
  · obtain ⟨a, g, rfl, hg, ok, q⟩ := h
    have nd := scall_tops.nd
    have hu := hu_of hr
    refine ⟨_, pss_cons (ps_set (i := 1) nd rfl (Or.inr rfl) (pe_c C_shapes_by hr (by decide) (pa_cons (pv 0) pa_nil)))
      (pss_one (ps_ret (pe_callTy (tuple_ofK K) (by rfl) B.tuple (by decide +kernel) (pa_cons (pe_lc (own := [("lot", 2)]) (g := gName 2) (by rfl) nd (pi_listK K (pe_callB (call_sortedD rfl) (by rfl) B.sorted (by decide +kernel) (pa_cons (pv 1) pa_nil))) (blkOk_by (own := [("lot", 2)]) (N := nall_tops) (sc := defScope (top 12)) (by decide +kernel)) (fun _ _ _ _ _ => pg_name (i := 2) nd rfl (Or.inl rfl)) (fun _ _ _ _ _ => pts_nil) (fun _ _ _ _ _ => pe_tup (pa_cons (pv 2) (pa_cons (pe_dget hu (pv 1) (pv 2) (fun _ _ => rfl)) pa_nil)))) pa_nil)))), ?_⟩
    refine ⟨_, rfl, a, g, rfl, hg, ok, fun H1 kn kv s1 hk I h0 => ?_⟩
    have kl := I.len ok.ok
    refine ⟨_, rfl, kn, kvm kv, kv.map fun p => S p.1, rfl, .inl hk, ?_, ?_, fun ys p pm so hp => ?_⟩
    · unfold kvm
      rw [List.map_map, List.map_map]
      rfl
    · rw [List.length_map]
      omega
    have nd : (kv.map fun p => S p.1).Nodup := by
      have e : (kv.map fun p => S p.1) = (kv.map (·.1)).map S := by
        rw [List.map_map]
        rfl
      rw [e, List.nodup_iff_pairwise_ne, List.pairwise_map]
      exact List.Pairwise.imp (fun h e => h (S_inj e)) I.nd
    have eys : ys = (K27.sdL (kv.map (·.1))).map S := by
      rw [sorted_is so (pm.nodup_iff.mpr nd) fun x => pm.mem_iff]
      unfold sortT
      rw [List.map_map]
      rfl
    subst eys
    have hp' : upd H1 p (.lst (((K27.sdL (kv.map (·.1))).map S).map V.str)) p = some (.lst ((K27.sdL (kv.map (·.1))).map vS)) := by
      rw [upd_same, map_vS]
    refine ⟨p, rfl, ⟨_, SqL.of hp'⟩, fun D hD => ?_⟩
    have kl2 : (K27.sdL (kv.map (·.1))).length ≤ 9 := by
      have h1 : (K27.sdL (kv.map (·.1))).length ≤ (kv.map (·.1)).length := K27.sdG_len _
      rw [List.length_map] at h1
      omega
    refine lc_rl (walk_list (xs := (K27.sdL (kv.map (·.1))).map vS)) (K27.sdL (kv.map (·.1))) (fun l v H => ∃ q, v = V.ref q ∧ q ≠ D ∧ H q = some (.tup [vS l, vS ((K27.aget kv l).getD [])])) (by rw [List.length_map]) (by rw [List.length_map]; omega) hD
      (fun H' s' => s'.seq (SqL.of hp')) (fun a v H H' bt ⟨q, h1, h2, h3⟩ => ⟨q, h1, h2, bt _ _ h2 h3⟩) (fun i l x H2 H3 Qy hi hl s2 hD2 yl qy => ?_) fun H2 ys s2 hys hlen hP => ?_
    · obtain ⟨rfl, hx⟩ := yl
      obtain ⟨l', hl', rfl⟩ := map_take _ _ _ _ hx
      rw [hl'] at hl
      cases hl
      obtain ⟨t, et⟩ := (keys_iff kv l).mp ((K27.mem_sdG l _).mp (List.mem_of_getElem? hl'))
      have dg := DGet.k (k := kT l) ((same_upd hp).trans s2 _ _ hk)
      rw [valV_kvm, et] at dg
      have two : 2 ≤ sizeLine := by decide
      refine ⟨rfl, _, rfl, _, rfl, _, rfl, kn, vS t, rfl, dg, two, fun q hq => qy _ _ ⟨q, rfl, ?_, ?_⟩ (same_upd hq)⟩
      · intro e
        rw [e] at hq
        exact hD2 hq
      · rw [upd_same, et]
        rfl
    · refine ⟨D, ys, rfl, .inl ⟨SqL.of hys, fun l hl => ?_⟩⟩
      exact q _ l _ ((s1.trans ((same_upd hp).trans s2)).trans (same_upd hl)) (pairs_of (D := D) hl hlen hP) (isRes I h0)
theorem c_all_tops {f : Addr} {fd : FuncData} (F : FnP K "all_tops" 12 f fd) (B : Free mg) (C_shapes_by : Cal P w K mg base 4 "shapes_by" (spShp K)) (hm : mg "all_tops" = some (.ref f)) : Cal P w K mg base 5 "all_tops" (spAll K) :=
  ⟨f, fd, ["table"], ok_all_tops F B C_shapes_by, hm, F.kp, F.bindsN (fun _ _ _ _ _ _ us hl => match us, hl with | [_], _ => rfl)⟩
/-- .. by its keyword -/
structure CalK (P : Program) (w : World) (K : PySem.W.Frag) (mg : Str → Option Value) (base : Heap) (k : Nat) (x y : Str) (sp : Sp) : Prop where
  ex : ∃ (f : Addr) (fd : FuncData), FnOk P w K mg base CX0 k f fd [y] sp ∧ mg x = some (.ref f) ∧ PySem.W.keepIn K (.ref f) = true ∧ KBinds K fd [y] [y] (fun us ws => us ++ ws) (fun vs zs => vs ++ zs)
theorem ck_all_tops {f : Addr} {fd : FuncData} (F : FnP K "all_tops" 12 f fd) (B : Free mg) (C_shapes_by : Cal P w K mg base 4 "shapes_by" (spShp K)) (hm : mg "all_tops" = some (.ref f)) : CalK P w K mg base 5 "all_tops" "table" (spAll K) := by
  refine ⟨f, fd, ok_all_tops F B C_shapes_by, hm, F.kp, fun s us ws hin hl => ?_, fun r rz => r.append rz⟩
  obtain ⟨oc, od, dV, kV, doc, pm, an, cdv, ct, osl, rfl, lk, hcd, hD, hK⟩ := F.ex
  rcases hD with ⟨_, rfl⟩ | ⟨e, _⟩
  · refine .of_eq ?_
    match us, ws, hl with
    | [], [_], _ => rfl
    | [_], [], _ => rfl
  · exact absurd rfl e
end
end K27W
/-! K27: letters, orders, ways, pairs, met. -/
namespace K27W
open PySem PySem.Spec PyProof.Rows L2 K27R
abbrev SC__law_met : Scope := { kind := .function, names := [(".0", .local), ("_law_way", .cell), ("range", .globalImplicit), ("len", .globalImplicit), ("_law_groups", .cell)], isGenerator := false, isCoroutine := false }
/-! ### == [] -/
/-- flat data -/
inductive FlatD : V → PyData → Prop
  | int (i : Int) : FlatD (.int i) (.int i)
  | str (l : List Nat) : (S l).cps.size ≤ 1000000 → PyData.strOk (S l) = true → FlatD (vS l) (.str (S l))
structure FlatL (xs : List V) (ds : List PyData) : Prop where
  len : xs.length = ds.length
  dp : ∀ K H, DpAll K H xs ds
  can : PyData.canLayAll0 ds = true
  dep : PyData.depthAll ds = 0
theorem FlatL.nil : FlatL [] [] := ⟨rfl, fun _ _ => .nil, rfl, rfl⟩
theorem FlatL.ints : ∀ ns : List Int, ∃ ds, FlatL (ns.map V.int) ds
  | [] => ⟨[], .nil⟩
  | n :: ns => by
    obtain ⟨ds, h⟩ := FlatL.ints ns
    refine ⟨.int n :: ds, by simp [h.len], fun K H => .cons (.int n) (h.dp K H), ?_, ?_⟩
    · simp [PyData.canLayAll0, PyData.canLay0, h.can]
    · simp [PyData.depthAll, PyData.depth, h.dep]
theorem FlatL.strs : ∀ ls : List (List Nat), (∀ l ∈ ls, PyData.strOk (S l) = true) → ∃ ds, FlatL (ls.map vS) ds
  | [], _ => ⟨[], .nil⟩
  | l :: ls, ok => by
    obtain ⟨ds, h⟩ := FlatL.strs ls fun x hx => ok x (List.mem_cons_of_mem _ hx)
    refine ⟨.str (S l) :: ds, by simp [h.len], fun K H => .cons (.str _) (h.dp K H), ?_, ?_⟩
    · simp [PyData.canLayAll0, PyData.canLay0, h.can, ok l List.mem_cons_self]
    · simp [PyData.depthAll, PyData.depth, h.dep]
theorem eqv_nil (ds : List PyData) : PyData.eqv (.list ds) (.list []) = ds.isEmpty := by
  cases ds <;> simp [PyData.eqv, PyData.eqvAll]
theorem shaped_flat {xs : List V} {ds : List PyData} (h : FlatL xs ds) : SeqAt.shaped (.list ds) = true := by
  unfold SeqAt.shaped
  rw [Bool.and_eq_true, decide_eq_true_eq]
  exact ⟨h.can, by show PyData.depthAll ds + 1 ≤ 64; rw [h.dep]; decide⟩
theorem empty_len {xs : List V} {ds : List PyData} (h : xs.length = ds.length) : ds.isEmpty = xs.isEmpty := by
  cases ds <;> cases xs <;> simp at h ⊢
theorem eq_nil {K : PySem.W.Frag} {H : Hp} {p q : Addr} {xs : List V} {ds : List PyData} {Q : VK} (hp : SqL K H p xs) (hq : SqL K H q []) (f : FlatL xs ds) (h : Q (.bl xs.isEmpty) H) : rEqD K (.ref p) (.ref q) H Q :=
  ⟨.list ds, .list [], .lst hp (f.dp K H), .lst hq .nil, shaped_flat f, shaped_flat .nil, by rw [eqv_nil, empty_len f.len]; exact h⟩
theorem ne_nil {K : PySem.W.Frag} {H : Hp} {p q : Addr} {xs : List V} {ds : List PyData} {Q : VK} (hp : SqL K H p xs) (hq : SqL K H q []) (f : FlatL xs ds) (h : Q (.bl (!xs.isEmpty)) H) : rNeD K (.ref p) (.ref q) H Q :=
  ⟨.list ds, .list [], .lst hp (f.dp K H), .lst hq .nil, shaped_flat f, shaped_flat .nil, by rw [eqv_nil, empty_len f.len]; exact h⟩
/-! ### orders -/
def lateF (c : Nat) (word : List Nat) : List (List Nat) := (List.range (word.length + 1)).map fun k => word.take k ++ c :: word.drop k
def insF (F : List (List Nat)) (c : Nat) : List (List Nat) := K27.sdL (F.flatMap (lateF c))
def ordW (r : List Nat) (i : Nat) : List (List Nat) := (r.take i).foldl insF [[]]
theorem ordW_succ {r : List Nat} {i c : Nat} (h : r[i]? = some c) : ordW r (i + 1) = insF (ordW r i) c := by
  unfold ordW
  rw [List.take_add_one, h, List.foldl_append]
  rfl
theorem mem_insF {F : List (List Nat)} {t : List Nat} {c : Nat} (hF : ∀ y, y ∈ F ↔ y.Perm t) (y : List Nat) : y ∈ insF F c ↔ y.Perm (t ++ [c]) := by
  unfold insF
  have hm : y ∈ K27.sdL (F.flatMap (lateF c)) ↔ y ∈ F.flatMap (lateF c) := K27.mem_sdG y _
  rw [hm, List.mem_flatMap]
  have mid : ∀ a b : List Nat, (a ++ c :: b).Perm (c :: (a ++ b)) := fun a b => List.perm_middle
  have snoc : (t ++ [c]).Perm (c :: t) := List.perm_append_singleton c t
  constructor
  · rintro ⟨word, hw, hy⟩
    obtain ⟨k, _, rfl⟩ := List.mem_map.mp hy
    refine (mid _ _).trans (List.Perm.trans ?_ snoc.symm)
    rw [List.take_append_drop]
    exact ((hF word).mp hw).cons c
  · intro h
    have h2 := h.trans snoc
    have hc : c ∈ y := h2.mem_iff.mpr List.mem_cons_self
    obtain ⟨a, b, rfl⟩ := List.append_of_mem hc
    refine ⟨a ++ b, (hF _).mpr (((mid a b).symm.trans h2).cons_inv), ?_⟩
    refine List.mem_map.mpr ⟨a.length, List.mem_range.mpr (by rw [List.length_append]; omega), ?_⟩
    rw [List.take_left, List.drop_left]
theorem mem_ordW (r : List Nat) : ∀ (i : Nat), i ≤ r.length → ∀ y, y ∈ ordW r i ↔ y.Perm (r.take i)
  | 0, _, y => by
    show y ∈ [[]] ↔ _
    simp
  | i + 1, h, y => by
    have hi : r[i]? = some r[i] := List.getElem?_eq_getElem (by omega)
    rw [ordW_succ hi, mem_insF (mem_ordW r i (by omega)), List.take_add_one, hi]
    rfl
def fac : Nat → Nat
  | 0 => 1
  | n + 1 => fac n * (n + 1)
theorem ordW_len (r : List Nat) : ∀ (i : Nat), i ≤ r.length → (ordW r i).length ≤ fac i
  | 0, _ => Nat.le_refl _
  | i + 1, h => by
    have hi : r[i]? = some r[i] := List.getElem?_eq_getElem (by omega)
    have ih := ordW_len r i (by omega)
    rw [ordW_succ hi]
    have h1 : (insF (ordW r i) r[i]).length ≤ ((ordW r i).flatMap (lateF r[i])).length := K27.sdG_len _
    have h2 := flatMap_len (f := lateF r[i]) (n := i + 1) (l := ordW r i) fun a ha => by
      unfold lateF
      rw [List.length_map, List.length_range]
      have := ((mem_ordW r i (by omega) a).mp ha).length_eq
      rw [List.length_take] at this
      omega
    have h3 : (ordW r i).length * (i + 1) ≤ fac i * (i + 1) := Nat.mul_le_mul_right _ ih
    show _ ≤ fac i * (i + 1)
    omega
theorem ordW_6 (r : List Nat) (h : r.length ≤ 3) {i : Nat} (hi : i ≤ r.length) : (ordW r i).length ≤ 6 := by
  have h1 := ordW_len r i hi
  have h2 : i = 0 ∨ i = 1 ∨ i = 2 ∨ i = 3 := by omega
  rcases h2 with rfl | rfl | rfl | rfl <;> simp [fac] at h1 <;> omega
theorem walk_txt (r : List Nat) : Walk (Its (S r)) r.length (fun _ => True) (fun i H v H' => H' = H ∧ ∃ c, r[i]? = some c ∧ v = vS [c]) := by
  have e : (S r).cps.size = r.length := S_len r
  have w := walk_str (z := S r)
  rw [e] at w
  refine w.mono (fun _ _ => trivial) fun i H x H' _ _ y => ?_
  obtain ⟨h1, c, hc, h2⟩ := y
  exact ⟨h1, c, by simpa using hc, h2⟩
abbrev n_law_letters : List Str := ["_law_grid_here", "_law_found", "_law_row_here"]
theorem sc_law_letters : FnScope n_law_letters ["_law_grid_here"] (defScope (top 21)) := ⟨rfl, rfl, rfl, by decide +kernel, rfl, by decide +kernel, by decide +kernel⟩
def spLet (K : PySem.W.Frag) : Sp := fun vs H Q _ => ∃ (a : Addr) (g : K27.Grid), vs = [.ref a] ∧ GridAt K H a g ∧ g.rows.flatten.length ≤ 2000 ∧ ∀ H' p, Same H H' → H p = none → H' p = some (.lst (g.let_.map fun c => vS [c])) → Q (.ref p) H'
abbrev n_law_orders : List Str := ["_law_text", "_law_found", "_law_sign", "_law_late", "_law_word", "_law_k"]
theorem sc_law_orders : FnScope n_law_orders ["_law_text"] (defScope (top 24)) := ⟨rfl, rfl, rfl, by decide +kernel, rfl, by decide +kernel, by decide +kernel⟩
def spOrw : Sp := fun vs H Q _ => ∃ r : List Nat, vs = [vS r] ∧ r.length ≤ 3 ∧ ∀ H' p (ys : List (List Nat)), Same H H' → H p = none → H' p = some (.lst (ys.map vS)) → (∀ y, y ∈ ys ↔ y.Perm r) → ys.length ≤ 6 → Q (.ref p) H'
section
variable {P : Program} {w : World} {K : PySem.W.Frag} {mg : Str → Option Value} {base : Heap}
theorem c_letters {f : Addr} {fd : FuncData} (F : FnP K "_law_letters" 21 f fd) (hm : mg "_law_letters" = some (.ref f)) (B : Free mg) : Cal P w K mg base 1 "_law_letters" (spLet K) := by
  refine cal_of F hm sc_law_letters (fun _ _ _ _ _ _ us hl => match us, hl with | [_], _ => rfl) (fun vs H Q E h => ?_) (fun cdv A outer s H vs Q E hr h => ?_)
  · obtain ⟨a, g, rfl, _⟩ := h
    rfl
  · obtain ⟨a, g, rfl, hg, hz, q⟩ := h
    obtain ⟨r, h1, h2⟩ := hg.ex
    have nd := sc_law_letters.nd
    have hu := hu_of hr
    refine ⟨_, pss_cons (ps_set (i := 1) nd rfl (Or.inl rfl) (pe_lst pa_nil))
      (pss_cons (ps_for PassesOwn.never rfl (pi_tupK K (pe_ix (ix_tupK K) (pv 0) pe_int (fun _ _ => rfl))) (pg_name (i := 2) nd rfl (Or.inl rfl)) (pss_one (ps_expr (pe_bmK K PySem.F.plainAttrs_list PySem.F.slot_list_extend PySem.F.type_list_extend mt_extend (pv 1) (pa_cons (pe_callTy (call_listS rfl) (by rfl) B.list (by decide +kernel) (pa_cons (pv 2) pa_nil)) pa_nil)))))
      (pss_one (ps_ret (pe_ss B rfl (pv 1))))), ?_⟩
    refine ⟨Nat.zero_le _, fun l hl => ?_⟩
    have sl := same_upd (o := .lst []) hl
    refine ⟨_, rfl, _, _, _, _, rfl, rfl, same_seqT sl h1, rfl, r, rfl, ⟨_, same_seqT sl h2⟩, ?_⟩
    refine for_it (walk_tup (xs := g.rows.map vS)) (fun i σ H' => ∃ x : Option V, σ = [some (.ref a), some (.ref l), x] ∧ Same H H' ∧ H' l = some (.lst (((g.rows.take i).flatten).map fun c => vS [c])))
      ⟨none, rfl, sl, upd_same⟩ (fun i σ H' _ pv => let ⟨_, _, s, _⟩ := pv; same_seqT s h2) (fun i x σ H1 H' hi pv y => ?_) fun σ H' pv => ?_
    · obtain ⟨x0, rfl, sm, hl'⟩ := pv
      obtain ⟨rfl, hx⟩ := y
      obtain ⟨row, ho, rfl⟩ := map_take _ _ _ _ hx
      have tk : (g.rows.take (i + 1)).flatten = (g.rows.take i).flatten ++ row := by
        rw [List.take_add_one, ho, List.flatten_append]
        simp
      have hle : ((g.rows.take i).flatten).length + row.length ≤ 2000 := by
        rw [← List.length_append, ← tk]
        have : (g.rows.take (i + 1)).flatten.length ≤ g.rows.flatten.length := by
          conv => rhs; rw [← List.take_append_drop (i + 1) g.rows]
          rw [List.flatten_append, List.length_append]
          omega
        omega
      refine ⟨_, rfl, .inl ⟨rfl, _, SqL.of hl'⟩, _, rfl, S row, rfl, ?_, fun b hb => ?_⟩
      · rw [S_len]
        exact Nat.le_of_lt (small24 (by omega))
      · refine ⟨l, b, _, _, rfl, rfl, (same_upd hb) _ _ hl', upd_same, ?_, ?_⟩
        · unfold K27R.signs
          rw [List.length_map, List.length_map]
          exact Nat.le_of_lt (small24 (by show _ + row.length ≤ _; omega))
        · refine ⟨_, rfl, same_f (sm.trans (same_upd hb)) hl, ?_⟩
          rw [upd_same, tk, List.map_append]
          rfl
    · obtain ⟨x0, rfl, sm, hl'⟩ := pv
      have e : (g.rows.map vS).length = g.rows.length := List.length_map ..
      rw [e, List.take_length] at hl'
      refine ⟨_, rfl, ?_⟩
      refine ss_go (zs := g.rows.flatten.map fun c => S [c]) (.inr ⟨l, rfl, SqL.of (by rw [hl', List.map_map]; rfl)⟩) (by rw [List.length_map]; omega) fun p H2 s2 hp hH => ?_
      refine q H2 p (sm.trans s2) (none_of sm hp) ?_
      rw [hH, sort_ones, List.map_map]
      rfl
theorem c_orders {f : Addr} {fd : FuncData} (F : FnP K "_law_orders" 24 f fd) (hm : mg "_law_orders" = some (.ref f)) (B : Free mg) : Cal P w K mg base 1 "_law_orders" spOrw := by
  refine cal_of F hm sc_law_orders (fun _ _ _ _ _ _ us hl => match us, hl with | [_], _ => rfl) (fun vs H Q E h => ?_) (fun cdv A outer s H vs Q E hr h => ?_)
  · obtain ⟨r, rfl, _⟩ := h
    rfl
  · obtain ⟨r, rfl, hr3, q⟩ := h
    have nd := sc_law_orders.nd
    have hu := hu_of hr
    refine ⟨_, pss_cons (ps_set (i := 1) nd rfl (Or.inl rfl) (pe_lst (pa_cons pe_str pa_nil)))
      (pss_cons (ps_for PassesOwn.never rfl (pi_str (pv 0)) (pg_name (i := 2) nd rfl (Or.inr rfl)) (pss_cons (ps_set (i := 3) nd rfl (Or.inl rfl) (pe_lst pa_nil))
        (pss_cons (ps_for PassesOwn.never rfl (pi_listK K (pe_callTy (list_ofK K) (by rfl) B.list (by decide +kernel) (pa_cons (pv 1) pa_nil))) (pg_name (i := 4) nd rfl (Or.inr rfl)) (pss_one (ps_expr (pe_bmK K PySem.F.plainAttrs_list PySem.F.slot_list_extend PySem.F.type_list_extend mt_extend (pv 3) (pa_cons (pe_lc (own := [("_law_k", 5)]) (g := gName 5) (by rfl) nd (pi_range1 (by rfl) B.range (pa_cons (pe_op op_add (pe_callB call_len_str (by rfl) B.len (by decide +kernel) (pa_cons (pv 4) pa_nil)) pe_int) pa_nil)) (blkOk_by (own := [("_law_k", 5)]) (N := n_law_orders) (sc := defScope (top 24)) (by decide +kernel)) (fun _ _ _ _ _ => pg_name (i := 5) nd rfl (Or.inl rfl)) (fun _ _ _ _ _ => pts_nil) (fun _ _ _ _ _ => pe_op op_add_str (pe_op op_add_str (pe_slice sl_str (pv 4) po_none (po_some (pv 5))) (pv 2)) (pe_slice sl_str (pv 4) (po_some (pv 5)) po_none))) pa_nil)))))
        (pss_one (ps_set (i := 1) nd rfl (Or.inl rfl) (pe_ss B rfl (pv 3)))))))
      (pss_one (ps_ret (pv 1)))), ?_⟩
    have one_ : 1 ≤ sizeLine := by decide
    refine ⟨one_, fun l hl => ?_⟩
    refine ⟨_, rfl, S r, rfl, ?_⟩
    refine for_it (walk_txt r) (fun i σ H' => ∃ (p : Addr) (x x3 x4 : Option V), σ = [some (vS r), some (.ref p), x, x3, x4, none] ∧ Same H H' ∧ H p = none ∧ H' p = some (.lst ((ordW r i).map vS)))
      ⟨l, none, none, none, rfl, same_upd hl, hl, upd_same⟩ (fun _ _ _ _ _ => trivial) (fun i x σ H1 H' hi pv y => ?_) fun σ H' pv => ?_
    · obtain ⟨p, x0, x3, x4, rfl, sm, hp, hp'⟩ := pv
      obtain ⟨rfl, c, hc, rfl⟩ := y
      have l6 := ordW_6 r hr3 (i := i) (by omega)
      refine ⟨Nat.zero_le _, fun b hb => ?_⟩
      have sb := same_upd (o := .lst []) hb
      refine ⟨_, rfl, p, _, rfl, .inl (SqL.of (sb _ _ hp')), fun u hu => ?_⟩
      have su := same_upd (o := .lst ((ordW r i).map vS)) hu
      refine ⟨u, rfl, ⟨_, SqL.of upd_same⟩, ?_⟩
      have bu : b ≠ u := fun e => by
        rw [← e, upd_same] at hu
        cases hu
      refine for_it (walk_list (xs := (ordW r i).map vS)) (fun j σ H2 => ∃ x4 : Option V, σ = [some (vS r), some (.ref p), some (vS [c]), some (.ref b), x4, none] ∧ Same H' H2 ∧ H2 b = some (.lst ((((ordW r i).take j).flatMap (lateF c)).map vS)) ∧ H2 u = some (.lst ((ordW r i).map vS)))
        ⟨x4, rfl, sb.trans su, by rw [upd_ne bu]; exact upd_same, upd_same⟩ (fun j σ H2 _ pv => let ⟨_, _, _, _, h⟩ := pv; SqL.of h) (fun j x σ H2 H3 hj pv y => ?_) fun σ H2 pv => ?_
      · obtain ⟨x4', rfl, s2, h2, h2u⟩ := pv
        obtain ⟨rfl, hx⟩ := y
        obtain ⟨word, hw, rfl⟩ := map_take _ _ _ _ hx
        have wl : word.length ≤ 3 := by
          have := ((mem_ordW r i (by omega) word).mp (List.mem_of_getElem? hw)).length_eq
          rw [List.length_take] at this
          omega
        have S1 : (S word).length = word.length := S_len word
        have sz : (S word).length ≤ sizeLine := Nat.le_of_lt (small24 (by omega))
        refine ⟨_, rfl, .inl ⟨rfl, _, SqL.of h2⟩, _, rfl, S word, rfl, sz, _, _, rfl, rfl, ((word.length + 1 : Nat) : Int), by rw [S1]; rfl, by omega, by omega, fun D hD => ?_⟩
        rw [Int.toNat_natCast]
        refine lc_fl (walk_range (lo := 0)) (List.range (word.length + 1)) (fun k => some (vS (word.take k ++ c :: word.drop k))) (by rw [List.length_range]) (by omega) hD (fun _ _ => trivial) (fun k k' x H4 H5 Qy Qn hk hk' s4 _ yl qy _ => ?_) fun H4 s4 h4 => ?_
        · obtain ⟨rfl, rfl⟩ := yl
          have ek : k' = k := by
            rw [List.getElem?_range hk] at hk'
            exact (Option.some.inj hk').symm
          subst ek
          have c1 : cutS (S word) none (some (0 + (k' : Int))) = S (word.take k') := by
            rw [C8.cutS_slice, SX.slice_to (by omega)]
            congr 2
            omega
          have c2 : cutS (S word) (some (0 + (k' : Int))) none = S (word.drop k') := by
            rw [C8.cutS_slice, SX.slice_from (by omega)]
            congr 2
            omega
          refine ⟨rfl, _, rfl, _, rfl, _, rfl, S word, rfl, sz, _, rfl, _, _, rfl, rfl, ?_, _, rfl, _, rfl, _, rfl, S word, rfl, sz, _, _, rfl, rfl, ?_, ?_⟩
          · rw [c1, S_len, S_len, List.length_take]
            exact Nat.le_of_lt (small24 (by simp; omega))
          · rw [c1, c2, S_cat, S_len, S_len, List.length_append, List.length_take, List.length_drop]
            exact Nat.le_of_lt (small24 (by simp; omega))
          · rw [c1, c2, S_cat, S_cat]
            refine qy _ _ ?_ (Same.refl _)
            rw [List.append_assoc]
            rfl
        · rw [fm_some] at h4
          have bl : (((ordW r i).take j).flatMap (lateF c)).length ≤ 6 * 4 := by
            have h1 := flatMap_len (f := lateF c) (n := 4) (l := (ordW r i).take j) fun a ha => by
              unfold lateF
              rw [List.length_map, List.length_range]
              have := ((mem_ordW r i (by omega) a).mp (List.mem_of_mem_take ha)).length_eq
              rw [List.length_take] at this
              omega
            rw [List.length_take] at h1
            have : min j (ordW r i).length ≤ 6 := by omega
            omega
          refine ⟨b, D, _, _, rfl, rfl, s4 _ _ h2, h4, ?_, ?_⟩
          · rw [List.length_map, List.length_map, List.length_range]
            exact Nat.le_of_lt (small24 (by omega))
          · refine ⟨_, rfl, same_f (s2.trans s4) hb, ?_, by rw [upd_ne (Ne.symm bu)]; exact s4 _ _ h2u⟩
            rw [upd_same, take_fl _ _ _ _ hw, List.map_append]
            have : (List.range (word.length + 1)).map (fun k => vS (word.take k ++ c :: word.drop k)) = (lateF c word).map vS := by
              unfold lateF
              rw [List.map_map]
              rfl
            rw [this]
      · obtain ⟨x4', rfl, s2, h2, h2u⟩ := pv
        have e : ((ordW r i).map vS).length = (ordW r i).length := List.length_map ..
        rw [e, List.take_length] at h2
        have bl : ((ordW r i).flatMap (lateF c)).length ≤ 6 * 4 := by
          have h1 := flatMap_len (f := lateF c) (n := 4) (l := ordW r i) fun a ha => by
            unfold lateF
            rw [List.length_map, List.length_range]
            have := ((mem_ordW r i (by omega) a).mp ha).length_eq
            rw [List.length_take] at this
            omega
          omega
        refine ⟨_, rfl, ?_⟩
        refine ss_go (zs := ((ordW r i).flatMap (lateF c)).map S) (.inr ⟨b, rfl, SqL.of (by rw [h2, map_vS])⟩) (by rw [List.length_map]; omega) fun p2 H3 s3 hp2 h3 => ?_
        refine ⟨p2, _, _, _, rfl, sm.trans (s2.trans s3), none_of (sm.trans s2) hp2, ?_⟩
        rw [h3, sortT_S, ← map_vS, ordW_succ hc]
        rfl
    · obtain ⟨p, x0, x3, x4, rfl, sm, hp, hp'⟩ := pv
      refine ⟨_, rfl, q H' p _ sm hp hp' (fun y => ?_) (ordW_6 r hr3 (Nat.le_refl _))⟩
      rw [mem_ordW r _ (Nat.le_refl _), List.take_length]
end
end K27W
/-! K27: ways, met, pairs. -/
namespace K27W
open PySem PySem.Spec PyProof.Rows L2 K27R
theorem fm_if {α β : Type} (p : α → Prop) [DecidablePred p] (f : α → β) : ∀ l : List α, l.filterMap (fun a => if p a then some (f a) else none) = (l.filter fun a => decide (p a)).map f
  | [] => rfl
  | a :: l => by
    rw [List.filterMap_cons, List.filter_cons, fm_if p f l]
    by_cases h : p a
    · rw [if_pos h, decide_eq_true h]
      rfl
    · rw [if_neg h, decide_eq_false h]
      rfl
theorem putK_len_old {kvs : List (Key × V)} {k : Key} {v u : V} (h : valV kvs k = some u) : (putK kvs k v).length = kvs.length := by
  unfold putK
  rw [valV_any, h]
  show (if true = true then _ else _ : List (Key × V)).length = _
  rw [if_pos rfl, List.length_map]
structure WB (H0 H : Hp) (d : Addr) (kvs : List (Key × V)) (R : List (List Nat)) : Prop where
  sm : Same H0 H
  d0 : H0 d = none
  hd : H d = some (.dK kvs)
  ent : ∀ k v, valV kvs k = some v → ∃ (a : Nat) (p : Addr) (ys : List (List Nat)), k = kT [a] ∧ v = .ref p ∧ H p = some (.lst (ys.map vS)) ∧ ys.length ≤ 6 * R.length ∧ ∀ y, y ∈ ys ↔ ∃ r, (a :: r) ∈ R ∧ y.Perm r
theorem WB.same {H0 H H' : Hp} {d : Addr} {kvs : List (Key × V)} {R : List (List Nat)} (h : WB H0 H d kvs R) (s : Same H H') : WB H0 H' d kvs R :=
  ⟨h.sm.trans s, h.d0, s _ _ h.hd, fun k v e => let ⟨a, p, ys, h1, h2, h4, h5⟩ := h.ent k v e; ⟨a, p, ys, h1, h2, s _ _ h4, h5⟩⟩
theorem WB.put {H0 H : Hp} {d p : Addr} {kvs : List (Key × V)} {R R' : List (List Nat)} {a : Nat} {ys : List (List Nat)} (h : WB H0 H d kvs R) (hp : H p = some (.lst (ys.map vS))) (hl : ys.length ≤ 6 * R'.length) (hm : ∀ y, y ∈ ys ↔ ∃ r, (a :: r) ∈ R' ∧ y.Perm r)
    (hR : R.length ≤ R'.length) (ho : ∀ b r, b ≠ a → ((b :: r) ∈ R' ↔ (b :: r) ∈ R)) : WB H0 (upd H d (.dK (putK kvs (kT [a]) (.ref p)))) d (putK kvs (kT [a]) (.ref p)) R' := by
  have np : ∀ q xs, H q = some (.lst xs) → q ≠ d := fun q xs hq e => by
    rw [e, h.hd] at hq
    cases hq
  refine ⟨same_f h.sm h.d0, h.d0, upd_same, fun k v e => ?_⟩
  rw [valV_put] at e
  by_cases hk : k = kT [a]
  · rw [if_pos hk] at e
    cases e
    exact ⟨a, p, ys, hk, rfl, by rw [upd_ne (np p _ hp)]; exact hp, hl, hm⟩
  · rw [if_neg hk] at e
    obtain ⟨b, q, zs, g1, g2, g4, g5, g6⟩ := h.ent k v e
    have ba : b ≠ a := fun e => hk (by rw [g1, e])
    refine ⟨b, q, zs, g1, g2, by rw [upd_ne (np q _ g4)]; exact g4, by omega, fun y => ?_⟩
    rw [g6]
    constructor
    · rintro ⟨r, h1, h2⟩
      exact ⟨r, (ho b r ba).mpr h1, h2⟩
    · rintro ⟨r, h1, h2⟩
      exact ⟨r, (ho b r ba).mp h1, h2⟩
abbrev LetD (g : K27.Grid) : Nat → Prop := fun a => a ∈ g.let_
abbrev n_law_ways : List Str := ["_law_grid_here", "_law_found", "_law_letter", "_law_row_here"]
theorem sc_law_ways : FnScope n_law_ways ["_law_grid_here"] (defScope (top 25)) := ⟨rfl, rfl, rfl, by decide +kernel, rfl, by decide +kernel, by decide +kernel⟩
def spWay (K : PySem.W.Frag) : Sp := fun vs H Q _ => ∃ (a : Addr) (g : K27.Grid), vs = [.ref a] ∧ GridAt K H a g ∧ Good g ∧ ∀ H' d kvs, Same H H' → WDk (LetD g) H' d g kvs → Q (.ref d) H'
abbrev n_law_met : List Str := ["_law_ways_here", "_law_groups", "_law_found", "_law_letter", "_law_suits", "_law_way", "_law_j"]
theorem sc_law_met : FnScope n_law_met ["_law_ways_here", "_law_groups"] (defScope (top 29)) := ⟨rfl, rfl, rfl, by decide +kernel, rfl, by decide +kernel, by decide +kernel⟩
def spMet (K : PySem.W.Frag) : Sp := fun vs H Q _ => ∃ (d q : Addr) (g : K27.Grid) (kvs : List (Key × V)) (ls : List (List Nat)), vs = [.ref d, .ref q] ∧ WDk (LetD g) H d g kvs ∧ SqL K H q (ls.map vS) ∧ ls.length = g.w ∧ Good g ∧ ∀ H', Same H H' → Q (vS (g.F ls)) H'
theorem low_ok {l : List Nat} (h : ∀ c ∈ l, 97 ≤ c ∧ c ≤ 122) : PyData.strOk (S l) = true := by
  unfold PyData.strOk
  rw [← Array.all_toList, List.all_eq_true]
  intro c hc
  have := h c hc
  simp
  omega
theorem way_low {g : K27.Grid} (ok : Good g) {a : Nat} {y : List Nat} (h : g.Way a y) : ∀ c ∈ y, 97 ≤ c ∧ c ≤ 122 := by
  obtain ⟨r, hr, p⟩ := h
  exact fun c hc => ok.low _ hr c (List.mem_cons_of_mem _ (p.mem_iff.mp hc))
def Bad (y : List Nat) (ls : List (List Nat)) (j : Nat) : Prop := ∃ c l, y[j]? = some c ∧ ls[j]? = some l ∧ c ∉ l
theorem fit_bad {y : List Nat} {ls : List (List Nat)} : fitB y ls = true ↔ ∀ j, j < y.length → ¬ Bad y ls j := by
  rw [fitB_iff]
  constructor
  · rintro h j _ ⟨c, l, h1, h2, h3⟩
    exact h3 (h j c l h1 h2)
  · intro h j c l h1 h2
    refine Classical.byContradiction fun h3 => h j (List.getElem?_eq_some_iff.mp h1).1 ⟨c, l, h1, h2, h3⟩
section
variable {P : Program} {w : World} {K : PySem.W.Frag} {mg : Str → Option Value} {base : Heap}
theorem c_ways {f : Addr} {fd : FuncData} (F : FnP K "_law_ways" 25 f fd) (hm : mg "_law_ways" = some (.ref f)) (B : Free mg) (C_letters : Cal P w K mg base 1 "_law_letters" (spLet K)) (C_orders : Cal P w K mg base 1 "_law_orders" spOrw) : Cal P w K mg base 2 "_law_ways" (spWay K) := by
  refine cal_of F hm sc_law_ways (fun _ _ _ _ _ _ us hl => match us, hl with | [_], _ => rfl) (fun vs H Q E h => ?_) (fun cdv A outer s H vs Q E hr h => ?_)
  · obtain ⟨a, g, rfl, _⟩ := h
    rfl
  · obtain ⟨a, g, rfl, hg, ok, q⟩ := h
    have nd := sc_law_ways.nd
    have hu := hu_of hr
    refine ⟨_, pss_cons (ps_set (i := 1) nd rfl (Or.inl rfl) pe_dnewK)
      (pss_cons (ps_for PassesOwn.never rfl (pi_listK K (pe_c C_letters hr (by decide) (pa_cons (pv 0) pa_nil))) (pg_name (i := 2) nd rfl (Or.inl rfl)) (pss_one (ps_dput hu (pv 1) (pv 2) (pe_lst pa_nil) rfl)))
      (pss_cons (ps_for PassesOwn.never rfl (pi_tupK K (pe_ix (ix_tupK K) (pv 0) pe_int (fun _ _ => rfl))) (pg_name (i := 3) nd rfl (Or.inl rfl)) (pss_one (ps_dput hu (pv 1) (pe_ix ix_str (pv 3) pe_int (fun _ _ => rfl)) (pe_op op_cat (pe_dget hu (pv 1) (pe_ix ix_str (pv 3) pe_int (fun _ _ => rfl)) (fun _ _ => rfl)) (pe_c C_orders hr (by decide) (pa_cons (pe_slice sl_str (pv 3) (po_some pe_int) po_none) pa_nil))) rfl)))
      (pss_one (ps_ret (pv 1))))), ?_⟩
    have fl := ok.flat
    have few := ok.ok.few
    have most := ok.most
    intro d hd
    have sd := same_upd (o := .dK []) hd
    refine ⟨_, rfl, a, g, rfl, hg.same sd, by omega, fun H1 p s1 hp hp' => ⟨p, rfl, ⟨_, SqL.of hp'⟩, ?_⟩⟩
    refine for_it (walk_list (xs := g.let_.map fun c => vS [c])) (fun i σ H' => ∃ (x : Option V) (kvs : List (Key × V)), σ = [some (.ref a), some (.ref d), x, none] ∧ kvs.length ≤ i ∧ WB H H' d kvs [] ∧ H' p = some (.lst (g.let_.map fun c => vS [c])) ∧ ∀ c ∈ g.let_.take i, ∃ v, valV kvs (kT [c]) = some v)
      ⟨none, [], rfl, Nat.le_refl _, ⟨sd.trans s1, hd, s1 _ _ upd_same, fun k v e => absurd e (by simp [valV_nil])⟩, hp', fun c hc => absurd hc (by simp)⟩ (fun i σ H' _ pv => let ⟨_, _, _, _, _, h, _⟩ := pv; SqL.of h) (fun i x σ H2 H3 hi pv y => ?_) fun σ H2 pv => ?_
    · obtain ⟨x0, kvs, rfl, kl, wb, hp2, hdom⟩ := pv
      obtain ⟨rfl, hx⟩ := y
      obtain ⟨c, hc, rfl⟩ := map_take _ _ _ _ hx
      have hi' : i < g.let_.length := by simpa using hi
      refine ⟨Nat.zero_le _, fun z hz => ?_⟩
      have wz := wb.same (same_upd (o := .lst []) hz)
      refine ⟨_, rfl, _, rfl, d, _, rfl, DPut.k (k := kT [c]) wz.hd (small24 (by omega)), some (vS [c]), _, rfl, ?_, WB.put wz (ys := []) upd_same (Nat.zero_le _) (fun y => ?_) (Nat.le_refl _) (fun b r _ => Iff.rfl), ?_, fun e he => ?_⟩
      · have := length_putK kvs (kT [c]) (.ref z)
        omega
      · simp
      · have n1 : p ≠ d := fun e => by
          rw [e, wb.hd] at hp2
          cases hp2
        rw [upd_ne n1]
        exact (same_upd hz) _ _ hp2
      · rw [List.take_add_one, hc] at he
        rw [valV_put]
        by_cases hk : kT [e] = kT [c]
        · rw [if_pos hk]
          exact ⟨_, rfl⟩
        · rw [if_neg hk]
          rcases List.mem_append.mp he with he | he
          · exact hdom e he
          · have : e = c := by simpa using he
            exact absurd (by rw [this]) hk
    · obtain ⟨x0, kvs, rfl, kl, wb, hp2, hdom⟩ := pv
      have e : (g.let_.map fun c => vS [c]).length = g.let_.length := List.length_map ..
      rw [e] at kl hdom
      rw [List.take_length] at hdom
      obtain ⟨r, h1, h2⟩ := hg.ex
      refine ⟨_, rfl, _, _, _, _, rfl, rfl, same_seqT wb.sm h1, rfl, r, rfl, ⟨_, same_seqT wb.sm h2⟩, ?_⟩
      refine for_it (walk_tup (xs := g.rows.map vS)) (fun i σ H' => ∃ (x : Option V) (kvs : List (Key × V)), σ = [some (.ref a), some (.ref d), x0, x] ∧ kvs.length ≤ g.let_.length ∧ WB H H' d kvs (g.rows.take i) ∧ ∀ c ∈ g.let_, ∃ v, valV kvs (kT [c]) = some v)
        ⟨none, kvs, rfl, kl, by simpa using wb, hdom⟩ (fun i σ H' _ pv => let ⟨_, _, _, _, wb, _⟩ := pv; same_seqT wb.sm h2) (fun i x σ H2 H3 hi pv y => ?_) fun σ H2 pv => ?_
      · obtain ⟨x1, kvs, rfl, kl, wb, hdom⟩ := pv
        obtain ⟨rfl, hx⟩ := y
        obtain ⟨row, ho, rfl⟩ := map_take _ _ _ _ hx
        have hrow : row ∈ g.rows := List.mem_of_getElem? ho
        obtain ⟨c, t, rfl, hr3, hrw⟩ := row_cons ok hrow
        have sz : (S (c :: t)).length ≤ sizeLine := by
          have : (S (c :: t)).length = (c :: t).length := S_len _
          exact Nat.le_of_lt (small24 (by simp at this; omega))
        have hi' : i < g.rows.length := by simpa using hi
        have tk : g.rows.take (i + 1) = g.rows.take i ++ [c :: t] := by
          rw [List.take_add_one, ho]
          rfl
        have cut : cutS (S (c :: t)) (some 1) none = S t := by
          rw [C8.cutS_slice]
          exact SX.slice_from (by decide)
        have hcl : c ∈ g.let_ := K27.way_let (y := t) ⟨t, hrow, List.Perm.refl _⟩
        obtain ⟨v, hv⟩ := hdom c hcl
        obtain ⟨b, p1, ys, hb, rfl, hp1, hyl, hym⟩ := wb.ent _ _ hv
        obtain rfl : c = b := by simpa using kT_inj hb
        refine ⟨_, rfl, _, rfl, _, _, c, rfl, rfl, sz, atI_nat (j := 0) rfl, d, .ref p1, rfl, ?_, _, rfl, 1, rfl, _, rfl, sz, ?_⟩
        · have := DGet.k (k := kT [c]) wb.hd
          rwa [hv] at this
        rw [cut]
        refine ⟨t, rfl, hr3, fun H4 p2 zs s4 hp20 hp2 hzm hzl => ?_⟩
        refine ⟨p1, p2, _, _, rfl, rfl, s4 _ _ hp1, hp2, ?_, fun p3 hp3 => ?_⟩
        · rw [List.length_map, List.length_map]
          rw [List.length_take] at hyl
          exact Nat.le_of_lt (small24 (by omega))
        have w3 := (wb.same s4).same (same_upd (o := .lst (ys.map vS ++ zs.map vS)) hp3)
        refine ⟨_, rfl, _, rfl, _, _, c, rfl, rfl, sz, atI_nat (j := 0) rfl, d, _, rfl, DPut.k (k := kT [c]) w3.hd (small24 (by omega)), some (vS (c :: t)), putK kvs (kT [c]) (.ref p3), rfl, ?_, ?_, fun e he => ?_⟩
        · rw [putK_len_old hv]
          exact kl
        · rw [tk]
          refine WB.put w3 (ys := ys ++ zs) (by rw [upd_same, List.map_append]) ?_ (fun y => ?_) (by simp) fun b r hba => ?_
          · rw [List.length_append, List.length_append, List.length_singleton]
            omega
          · rw [List.mem_append, hym, hzm]
            constructor
            · rintro (⟨r, g1, g2⟩ | g2)
              · exact ⟨r, List.mem_append_left _ g1, g2⟩
              · exact ⟨t, List.mem_append_right _ List.mem_cons_self, g2⟩
            · rintro ⟨r, g1, g2⟩
              rcases List.mem_append.mp g1 with g1 | g1
              · exact .inl ⟨r, g1, g2⟩
              · have := (List.cons.inj (List.mem_singleton.mp g1)).2
                subst this
                exact .inr g2
          · constructor
            · intro hm
              rcases List.mem_append.mp hm with hm | hm
              · exact hm
              · exact absurd (List.cons.inj (List.mem_singleton.mp hm)).1 hba
            · exact fun hm => List.mem_append_left _ hm
        · rw [valV_put]
          by_cases hk : kT [e] = kT [c]
          · rw [if_pos hk]
            exact ⟨_, rfl⟩
          · rw [if_neg hk]
            exact hdom e he
      · obtain ⟨x1, kvs, rfl, kl, wb, hdom⟩ := pv
        have e : (g.rows.map vS).length = g.rows.length := List.length_map ..
        rw [e, List.take_length] at wb
        refine ⟨_, rfl, q _ d kvs wb.sm ⟨wb.hd, by omega, fun k v hk => ?_, hdom⟩⟩
        obtain ⟨b, p1, ys, hb, h2, hp1, hyl, hym⟩ := wb.ent _ _ hk
        exact ⟨b, p1, ys, hb, h2, hp1, by omega, hym⟩
theorem c_met {f : Addr} {fd : FuncData} (F : FnP K "_law_met" 29 f fd) (hm : mg "_law_met" = some (.ref f)) (B : Free mg) : Cal P w K mg base 1 "_law_met" (spMet K) := by
  refine cal_of F hm sc_law_met (fun _ _ _ _ _ _ us hl => match us, hl with | [_, _], _ => rfl) (fun vs H Q E h => ?_) (fun cdv A outer s H vs Q E hr h => ?_)
  · obtain ⟨d, q, g, kvs, ls, rfl, _⟩ := h
    rfl
  · obtain ⟨d, q, g, kvs, ls, rfl, wd, hq, hl, ok, qq⟩ := h
    have nd := sc_law_met.nd
    have hu := hu_of hr
    refine ⟨_, pss_cons (ps_set (i := 2) nd rfl (Or.inl rfl) (pe_lst pa_nil))
      (pss_cons (ps_for PassesOwn.never rfl (pi_listK K (pe_ss B rfl (pe_callTy (call_listD rfl) (by rfl) B.list (by decide +kernel) (pa_cons (pv 0) pa_nil)))) (pg_name (i := 3) nd rfl (Or.inl rfl)) (pss_cons (ps_setLc (i := 4) (own := [("_law_way", 5)]) (g := gName 5) (by rfl) nd rfl rfl (sw_true rfl rfl rfl (by decide +kernel)) (pi_listK K (pe_dget hu (pv 0) (pv 3) (fun _ _ => rfl))) (blkOk_by (own := [("_law_way", 5)]) (N := n_law_met) (sc := defScope (top 29)) (by decide +kernel)) (fun _ _ _ _ _ => pg_name (i := 5) nd rfl (Or.inr rfl)) (fun _ _ _ _ _ => pts_one (pt_cmpR (op_eqDK K hr.units) (pe_lc (own := [("_law_j", 6)]) (g := gName 6) (by rfl) nd (pi_range1 (by rfl) B.range (pa_cons (pe_callB call_len_str (by rfl) B.len (by decide +kernel) (pa_cons (pv 5) pa_nil)) pa_nil)) (blkOk_by (own := [("_law_j", 6)]) (N := n_law_met) (sc := SC__law_met) (by decide +kernel)) (fun _ _ _ _ _ => pg_name (i := 6) nd rfl (Or.inl rfl)) (fun _ _ _ _ _ => pts_one (pt_cmpR op_notIn_sign (pe_ix ix_str (pv 5) (pv 6) (fun _ _ => rfl)) (pe_ix (ix_listK K) (pv 1) (pv 6) (fun _ _ => rfl)) (by with_unfolding_all rfl))) (fun _ _ _ _ _ => pv 6)) (pe_lst pa_nil) (nomark _))) (fun _ _ _ _ _ => pv 5))
        (pss_one (ps_if (pt_cmpR (op_neDK K hr.units) (pv 4) (pe_lst pa_nil) (nomark _)) (pss_one (ps_expr (pe_bmK K PySem.F.plainAttrs_list PySem.F.slot_list_append PySem.F.type_list_append mt_append (pv 2) (pa_cons (pv 3) pa_nil)))) pss_nil))))
      (pss_one (ps_ret (pe_j0 K (pv 2))))), ?_⟩
    have hw := ok.ok.w23
    refine ⟨Nat.zero_le _, fun f0 hf0 => ?_⟩
    have sf := same_upd (o := .lst []) hf0
    refine ⟨_, rfl, d, kvs, rfl, .inl (sf _ _ wd.hd), fun l0 hl0 => ?_⟩
    have ek : (kvs.map fun kv => kV kv.1) = ((kvs.map fun kv => letK kv.1).map fun c => S [c]).map V.str := by
      rw [List.map_map, List.map_map]
      refine List.map_congr_left fun kv hkv => ?_
      obtain ⟨u, hu⟩ := valV_some (k := kv.1) (v := kv.2) hkv
      obtain ⟨b, p, ys, h1, _⟩ := wd.ent _ _ hu
      show kV kv.1 = .str (S [letK kv.1])
      rw [h1]
      rfl
    have wl := wd.len
    refine ss_go (zs := (kvs.map fun kv => letK kv.1).map fun c => S [c]) (.inr ⟨l0, rfl, SqL.of (by rw [upd_same, ek])⟩) (by rw [List.length_map, List.length_map]; omega) fun p0 H1 s1 hp0 hH1 => ?_
    rw [sort_ones, ones_S] at hH1
    generalize hL : K27.sdN (kvs.map fun kv => letK kv.1) = L at hH1
    have Ll : L.length ≤ 16 := by
      have : (K27.sdN (kvs.map fun kv => letK kv.1)).length ≤ (kvs.map fun kv => letK kv.1).length := K27.sdG_len _
      rw [hL, List.length_map] at this
      omega
    have s01 : Same H H1 := sf.trans ((same_upd hl0).trans s1)
    have hf1 : H1 f0 = some (.lst []) := s1 _ _ ((same_upd hl0) _ _ upd_same)
    have npf : p0 ≠ f0 := fun e => by
      rw [e, (same_upd hl0) _ _ upd_same] at hp0
      cases hp0
    classical
    refine ⟨p0, rfl, ⟨_, SqL.of hH1⟩, ?_⟩
    refine for_it (walk_list (xs := (L.map fun c => [c]).map vS)) (fun i σ H' => ∃ x3 x4 : Option V, σ = [some (.ref d), some (.ref q), some (.ref f0), x3, x4, none, none] ∧ Same H H' ∧ H' p0 = some (.lst ((L.map fun c => [c]).map vS)) ∧ H' f0 = some (.lst (((L.take i).filter fun c => decide (g.Can ls c)).map fun c => vS [c])))
      ⟨none, none, rfl, s01, hH1, hf1⟩ (fun i σ H' _ pv => let ⟨_, _, _, _, h, _⟩ := pv; SqL.of h) (fun i x σ H2 H3 hi pv y => ?_) fun σ H2 pv => ?_
    · obtain ⟨x3, x4, rfl, s2, hp2, hf2⟩ := pv
      obtain ⟨rfl, hx⟩ := y
      obtain ⟨l1, hl1, rfl⟩ := map_take _ _ _ _ hx
      obtain ⟨c, hc, rfl⟩ := map_take _ _ _ _ hl1
      -- the letter is a key
      have hcm : c ∈ kvs.map fun kv => letK kv.1 := by
        rw [← K27.mem_sdG (lt := K27.ltN)]
        have : c ∈ L := List.mem_of_getElem? hc
        rw [← hL] at this
        exact this
      obtain ⟨kv, hkv, ekc⟩ := List.mem_map.mp hcm
      obtain ⟨u, hu⟩ := valV_some (k := kv.1) (v := kv.2) hkv
      obtain ⟨b, p, ys, g1, rfl, g4, g5, g6⟩ := wd.ent _ _ hu
      have : c = b := by
        rw [← ekc, g1]
        rfl
      subst this
      rw [g1] at hu
      have dg : DGet H3 d (kV (kT [c])) (some (.ref p)) := by
        have := DGet.k (k := kT [c]) (s2 _ _ wd.hd)
        rwa [hu] at this
      refine ⟨_, rfl, _, rfl, d, .ref p, rfl, dg, p, rfl, ⟨_, SqL.of (s2 _ _ g4)⟩, fun D hD => ?_⟩
      refine lc_fl (walk_list (xs := ys.map vS)) ys (fun y => if fitB y ls = true then some (vS y) else none) (by rw [List.length_map]) (by rw [List.length_map]; omega) hD (fun H' s' => s'.seq (SqL.of (s2 _ _ g4))) (fun j y x H4 H5 Qy Qn hj hy s4 _ yl qy qn => ?_) fun H4 s4 h4 => ?_
      · obtain ⟨rfl, hx⟩ := yl
        obtain ⟨y', hy', rfl⟩ := map_take _ _ _ _ hx
        rw [hy'] at hy
        cases hy
        have hwy := (g6 y).mp (List.mem_of_getElem? hy')
        have ylen := way_len ok hwy
        have Sy : (S y).length = y.length := S_len y
        have sz : (S y).length ≤ sizeLine := Nat.le_of_lt (small24 (by omega))
        refine ⟨rfl, _, rfl, S y, rfl, sz, _, rfl, by rw [Sy]; omega, by rw [Sy]; omega, fun D2 hD2 => ?_⟩
        refine lc_fl (walk_range (lo := 0)) (List.range y.length) (fun j => if Bad y ls j then some (.int (j : Int)) else none) (by rw [List.length_range, Sy]; rfl) (by rw [Sy]; show y.length ≤ _; omega) hD2 (fun _ _ => trivial) (fun k k' x H5 H6 Qy2 Qn2 hk hk' s5 _ yl2 qy2 qn2 => ?_) fun H5 s5 h5 => ?_
        · obtain ⟨rfl, rfl⟩ := yl2
          have hk2 : k < y.length := by
            rw [Sy] at hk
            exact hk
          have ek : k' = k := by
            rw [List.getElem?_range hk2] at hk'
            exact (Option.some.inj hk').symm
          subst ek
          obtain ⟨c', hc'⟩ : ∃ c', y[k']? = some c' := ⟨y[k'], List.getElem?_eq_getElem hk2⟩
          obtain ⟨l', hl'⟩ : ∃ l', ls[k']? = some l' := ⟨ls[k']'(by omega), List.getElem?_eq_getElem (by omega)⟩
          have z0 : (0 : Int) + (k' : Nat) = ((k' : Nat) : Int) := by omega
          refine ⟨rfl, _, rfl, _, rfl, _, _, c', rfl, rfl, sz, by rw [z0]; exact atI_nat (by simpa using hc'), _, rfl, _, rfl, q, _, _, vS l', rfl, rfl, (s2.trans (s4.trans s5)).seq hq, by rw [z0]; exact atI_nat (by rw [List.getElem?_map, hl']; rfl), c', S l', rfl, rfl, _, rfl, ?_⟩
          have ed : (!decide (c' ∈ (S l').cps.toList)) = decide (Bad y ls k') := by
            rw [Bool.eq_iff_iff, Bool.not_eq_true', decide_eq_false_iff_not, decide_eq_true_eq]
            constructor
            · exact fun h => ⟨c', l', hc', hl', h⟩
            · rintro ⟨c2, l2, h1, h2, h3⟩
              rw [hc'] at h1
              rw [hl'] at h2
              cases h1
              cases h2
              exact h3
          rw [ed]
          by_cases hb : Bad y ls k'
          · rw [decide_eq_true hb]
            refine iteT ⟨_, rfl, qy2 _ _ ?_ (Same.refl _)⟩
            rw [if_pos hb]
            show some (V.int _) = some (V.int (0 + _))
            rw [z0]
          · rw [decide_eq_false hb]
            refine iteF (qn2 _ ?_ (Same.refl _))
            rw [if_neg hb]
        · rw [fm_if (fun j => Bad y ls j)] at h5
          refine ⟨Nat.zero_le _, fun e0 he0 => ?_⟩
          obtain ⟨ds, fd⟩ := FlatL.ints (((List.range y.length).filter fun j => decide (Bad y ls j)).map fun j => ((j : Nat) : Int))
          refine eq_nil (K := K) (xs := (((List.range y.length).filter fun j => decide (Bad y ls j)).map fun j => ((j : Nat) : Int)).map V.int) (SqL.of ?_) (SqL.of upd_same) fd ⟨_, rfl, ?_⟩
          · rw [(same_upd he0) _ _ h5, List.map_map]
            rfl
          · have em : ((((List.range y.length).filter fun j => decide (Bad y ls j)).map fun j => ((j : Nat) : Int)).map V.int).isEmpty = fitB y ls := by
              rw [Bool.eq_iff_iff, List.isEmpty_iff, List.map_eq_nil_iff, List.map_eq_nil_iff, List.filter_eq_nil_iff, fit_bad]
              constructor
              · intro h j hj hb
                exact h j (List.mem_range.mpr hj) (decide_eq_true hb)
              · intro h j hj hb
                exact h j (List.mem_range.mp hj) (of_decide_eq_true hb)
            rw [em]
            cases hf : fitB y ls with
            | true => exact iteT ⟨_, rfl, qy _ _ (by rw [hf]; rfl) (s5.trans (same_upd he0))⟩
            | false => exact iteF (qn _ (by rw [hf]; rfl) (s5.trans (same_upd he0)))
      · rw [fm_if (fun y => fitB y ls = true)] at h4
        refine ⟨_, rfl, Nat.zero_le _, fun e0 he0 => ?_⟩
        obtain ⟨ds, fd⟩ := FlatL.strs (ys.filter fun y => decide (fitB y ls = true)) fun y hy => low_ok (way_low ok ((g6 y).mp (List.mem_filter.mp hy).1))
        refine ne_nil (K := K) (SqL.of ((same_upd he0) _ _ h4)) (SqL.of upd_same) fd ⟨_, rfl, ?_⟩
        have em : (!((ys.filter fun y => decide (fitB y ls = true)).map vS).isEmpty) = decide (g.Can ls c) := by
          rw [Bool.eq_iff_iff, Bool.not_eq_true', decide_eq_true_eq, can_iff]
          constructor
          · intro h
            have hne : (ys.filter fun y => decide (fitB y ls = true)) ≠ [] := fun e => by
              rw [e] at h
              cases h
            obtain ⟨y, hy⟩ := List.exists_mem_of_ne_nil _ hne
            obtain ⟨h1, h2⟩ := List.mem_filter.mp hy
            exact ⟨y, (g6 y).mp h1, of_decide_eq_true h2⟩
          · rintro ⟨y, h1, h2⟩
            cases hz : (ys.filter fun y => decide (fitB y ls = true)) with
            | nil =>
              have : y ∈ (ys.filter fun y => decide (fitB y ls = true)) := List.mem_filter.mpr ⟨(g6 y).mpr h1, decide_eq_true h2⟩
              rw [hz] at this
              cases this
            | cons a l => rfl
        rw [em]
        have s6 := s4.trans (same_upd (o := .lst []) he0)
        have tk : (L.take (i + 1)).filter (fun c => decide (g.Can ls c)) = (L.take i).filter (fun c => decide (g.Can ls c)) ++ (if g.Can ls c then [c] else []) := by
          rw [List.take_add_one, hc, List.filter_append]
          congr 1
          show List.filter _ [c] = _
          rw [List.filter_cons]
          by_cases h : g.Can ls c
          · rw [if_pos h, decide_eq_true h]
            rfl
          · rw [if_neg h, decide_eq_false h]
            rfl
        by_cases hcan : g.Can ls c
        · rw [decide_eq_true hcan]
          refine iteT ⟨_, rfl, .inl ⟨rfl, _, SqL.of (s6 _ _ hf2)⟩, _, rfl, f0, _, _, rfl, rfl, s6 _ _ hf2, ?_, _, _, rfl, same_f (s2.trans s6) hf0, ?_, ?_⟩
          · rw [List.length_map]
            have := List.length_filter_le (fun c => decide (g.Can ls c)) (L.take i)
            rw [List.length_take] at this
            exact small24 (by omega)
          · rw [upd_ne npf]
            exact s6 _ _ hp2
          · rw [upd_same, tk, if_pos hcan, List.map_append]
            rfl
        · rw [decide_eq_false hcan]
          refine iteF ⟨_, _, rfl, s2.trans s6, s6 _ _ hp2, ?_⟩
          rw [s6 _ _ hf2, tk, if_neg hcan, List.append_nil]
    · obtain ⟨x3, x4, rfl, s2, hp2, hf2⟩ := pv
      have e : ((L.map fun c => [c]).map vS).length = L.length := by rw [List.length_map, List.length_map]
      rw [e, List.take_length] at hf2
      have fl := List.length_filter_le (fun c => decide (g.Can ls c)) L
      refine ⟨⟨_, rfl⟩, _, rfl, f0, (L.filter fun c => decide (g.Can ls c)).map fun c => [c], rfl, rfl, .inl (SqL.of ?_), ?_, ?_⟩
      · rw [hf2, List.map_map]
        rfl
      · rw [K27.flatten_one]
        omega
      · rw [K27.flatten_one]
        have eF : (L.filter fun c => decide (g.Can ls c)) = g.F ls := by
          refine K27.asc_ext K27.linN (List.Pairwise.sublist List.filter_sublist (by rw [← hL]; exact K27.asc_sdG K27.linN _)) (K27.F_asc ls) fun x => ?_
          rw [List.mem_filter, decide_eq_true_eq, K27.mem_F]
          constructor
          · exact fun h => h.2
          · intro h
            refine ⟨?_, h⟩
            obtain ⟨y, hy, _⟩ := h
            obtain ⟨v, hv⟩ := wd.dom x (K27.way_let hy)
            obtain ⟨kv, hkv, ekx⟩ := List.mem_map.mp (valV_in hv)
            rw [← hL]
            refine (K27.mem_sdG x _).mpr (List.mem_map.mpr ⟨kv, hkv, ?_⟩)
            rw [ekx]
            rfl
        rw [eF]
        exact qq _ s2
end
end K27W
/-! K27: pairs, kids, stands, cans, tops. -/
namespace K27W
open PySem PySem.Spec PyProof.Rows L2 K27R
/-- a list of addresses of lists; none of them is one of ex -/
structure LX {α : Type} (H : Hp) (ex : Addr → Prop) (enc : α → List V) (rs : List V) (M : List α) : Prop where
  len : rs.length = M.length
  at_ : ∀ (i : Nat) m, M[i]? = some m → ∃ q, rs[i]? = some (.ref q) ∧ ¬ ex q ∧ H q = some (.lst (enc m))
section
variable {α : Type} {H H' : Hp} {ex ex' : Addr → Prop} {enc : α → List V} {rs rs' : List V} {M M' : List α}
theorem LX.same (h : LX H ex enc rs M) (s : Same H H') : LX H' ex enc rs M :=
  ⟨h.len, fun i m e => let ⟨q, h1, h2, h3⟩ := h.at_ i m e; ⟨q, h1, h2, s _ _ h3⟩⟩
theorem LX.upd {D : Addr} {o : HO} (h : LX H ex enc rs M) (hD : ex D) : LX (L2.upd H D o) ex enc rs M :=
  ⟨h.len, fun i m e => let ⟨q, h1, h2, h3⟩ := h.at_ i m e; ⟨q, h1, h2, by
    rw [upd_ne]
    · exact h3
    · intro z
      rw [z] at h2
      exact h2 hD⟩⟩
theorem LX.imp (h : LX H ex enc rs M) (hi : ∀ q, ex' q → ex q) : LX H ex' enc rs M :=
  ⟨h.len, fun i m e => let ⟨q, h1, h2, h3⟩ := h.at_ i m e; ⟨q, h1, fun x => h2 (hi q x), h3⟩⟩
theorem LX.fresh {z : Addr} (h : LX H ex enc rs M) (hz : H z = none) : LX H (fun q => ex q ∨ q = z) enc rs M := by
  refine ⟨h.len, fun i m e => ?_⟩
  obtain ⟨q, h1, h2, h3⟩ := h.at_ i m e
  refine ⟨q, h1, ?_, h3⟩
  rintro (x | e)
  · exact h2 x
  · rw [e, hz] at h3
    cases h3
theorem LX.app (h : LX H ex enc rs M) (h' : LX H ex enc rs' M') : LX H ex enc (rs ++ rs') (M ++ M') := by
  refine ⟨by rw [List.length_append, List.length_append, h.len, h'.len], fun i m e => ?_⟩
  by_cases hi : i < M.length
  · rw [List.getElem?_append_left hi] at e
    obtain ⟨q, h1, h2⟩ := h.at_ i m e
    exact ⟨q, by rw [List.getElem?_append_left (by rw [h.len]; exact hi)]; exact h1, h2⟩
  · rw [List.getElem?_append_right (by omega)] at e
    obtain ⟨q, h1, h2⟩ := h'.at_ _ m e
    exact ⟨q, by rw [List.getElem?_append_right (by rw [h.len]; omega), h.len]; exact h1, h2⟩
theorem LX.set {k : Nat} {m : α} {q : Addr} (h : LX H ex enc rs M) (hq : H q = some (.lst (enc m))) (hx : ¬ ex q) : LX H ex enc (rs.set k (.ref q)) (M.set k m) := by
  refine ⟨by rw [List.length_set, List.length_set, h.len], fun i n e => ?_⟩
  rw [List.getElem?_set] at e
  rw [List.getElem?_set]
  by_cases hk : k = i
  · rw [if_pos hk] at e ⊢
    by_cases hl : k < M.length
    · rw [if_pos hl] at e
      rw [if_pos (by rw [h.len]; exact hl)]
      cases e
      exact ⟨q, rfl, hx, hq⟩
    · rw [if_neg hl] at e
      cases e
  · rw [if_neg hk] at e ⊢
    exact h.at_ i n e
theorem LX.ofP {ls : List α} {ys : List V} (h1 : ys.length = ls.length) (h2 : ∀ (i : Nat) a y, ls[i]? = some a → ys[i]? = some y → ∃ q, y = V.ref q ∧ ¬ ex q ∧ H q = some (.lst (enc a))) : LX H ex enc ys ls := by
  refine ⟨h1, fun i m e => ?_⟩
  have hi : i < ys.length := by
    rw [h1]
    exact (List.getElem?_eq_some_iff.mp e).1
  obtain ⟨q, hq, h3, h4⟩ := h2 i m ys[i] e (List.getElem?_eq_getElem hi)
  exact ⟨q, by rw [List.getElem?_eq_getElem hi, hq], h3, h4⟩
theorem LX.nil : LX H ex enc [] ([] : List α) := ⟨rfl, fun i m e => by simp at e⟩
end
abbrev encT : List (List Nat) → List V := fun t => t.map vS
abbrev encI : List Nat → List V := fun ks => ks.map fun k => V.int ((k : Nat) : Int)
abbrev encO : List Nat → List V := fun l => l.map fun c => vS [c]
abbrev n_law_pairs : List Str := ["_law_groups", "_law_width", "_law_rows", "_law_lap", "_law_late", "_law_row_here", "_law_group"]
theorem sc_law_pairs : FnScope n_law_pairs ["_law_groups", "_law_width"] (defScope (top 30)) := ⟨rfl, rfl, rfl, by decide +kernel, rfl, by decide +kernel, by decide +kernel⟩
def spPar (K : PySem.W.Frag) : Sp := fun vs H Q _ => ∃ (k : Addr) (m : Nat) (ks : List (List Nat)), vs = [.ref k, .int (m : Int)] ∧ SqL K H k (ks.map vS) ∧ ks.length ≤ 9 ∧ m ≤ 3 ∧ ∀ H' p rs, Same H H' → H p = none → H' p = some (.lst rs) → LX H' (fun q => q = p) encT rs (tuples ks m) → Q (.ref p) H'
section
variable {P : Program} {w : World} {K : PySem.W.Frag} {mg : Str → Option Value} {base : Heap}
theorem c_pairs {f : Addr} {fd : FuncData} (F : FnP K "_law_pairs" 30 f fd) (hm : mg "_law_pairs" = some (.ref f)) (B : Free mg) : Cal P w K mg base 1 "_law_pairs" (spPar K) := by
  refine cal_of F hm sc_law_pairs (fun _ _ _ _ _ _ us hl => match us, hl with | [_, _], _ => rfl) (fun vs H Q E h => ?_) (fun cdv A outer s H vs Q E hr h => ?_)
  · obtain ⟨k, m, ks, rfl, _⟩ := h
    rfl
  · obtain ⟨k, m, ks, rfl, hk, hk9, hm3, q⟩ := h
    have nd := sc_law_pairs.nd
    have hu := hu_of hr
    refine ⟨_, pss_cons (ps_set (i := 2) nd rfl (Or.inl rfl) (pe_lst (pa_cons (pe_lst pa_nil) pa_nil)))
      (pss_cons (ps_for PassesOwn.never rfl (pi_range1 (by rfl) B.range (pa_cons (pv 1) pa_nil)) (pg_name (i := 3) nd rfl (Or.inl rfl)) (pss_cons (ps_set (i := 4) nd rfl (Or.inl rfl) (pe_lst pa_nil))
        (pss_cons (ps_for PassesOwn.never rfl (pi_listK K (pe_callTy (list_ofK K) (by rfl) B.list (by decide +kernel) (pa_cons (pv 2) pa_nil))) (pg_name (i := 5) nd rfl (Or.inr rfl)) (pss_one (ps_expr (pe_bmK K PySem.F.plainAttrs_list PySem.F.slot_list_extend PySem.F.type_list_extend mt_extend (pv 4) (pa_cons (pe_lc (own := [("_law_group", 6)]) (g := gName 6) (by rfl) nd (pi_listK K (pv 0)) (blkOk_by (own := [("_law_group", 6)]) (N := n_law_pairs) (sc := defScope (top 30)) (by decide +kernel)) (fun _ _ _ _ _ => pg_name (i := 6) nd rfl (Or.inl rfl)) (fun _ _ _ _ _ => pts_nil) (fun _ _ _ _ _ => pe_op op_cat (pv 5) (pe_lst (pa_cons (pv 6) pa_nil)))) pa_nil)))))
        (pss_one (ps_set (i := 2) nd rfl (Or.inl rfl) (pv 4))))))
      (pss_one (ps_ret (pv 2)))), ?_⟩
    have one_ : 1 ≤ sizeLine := by decide
    refine ⟨Nat.zero_le _, fun p0 hp0 => ⟨one_, fun l hl => ?_⟩⟩
    have s0 : Same H (L2.upd (L2.upd H p0 (.lst [])) l (.lst [.ref p0])) := (same_upd hp0).trans (same_upd hl)
    have hm' : ((m : Nat) : Int).toNat = m := Int.toNat_natCast m
    have npl : p0 ≠ l := fun z => by
      rw [← z, upd_same] at hl
      cases hl
    refine ⟨_, rfl, (m : Int), rfl, by omega, by omega, ?_⟩
    rw [hm']
    refine for_it (walk_range (lo := 0) (n := m)) (fun i σ H' => ∃ (p : Addr) (x x4 x5 : Option V) (rs : List V), σ = [some (.ref k), some (.int (m : Int)), some (.ref p), x, x4, x5, none] ∧ Same H H' ∧ H p = none ∧ H' p = some (.lst rs) ∧ LX H' (fun q => q = p) encT rs (tuples ks i))
      ⟨l, none, none, none, [.ref p0], rfl, s0, none_of (same_upd hp0) hl, upd_same, rfl, fun i t e => ?_⟩ (fun _ _ _ _ _ => trivial) (fun i x σ H1 H' hi pv y => ?_) fun σ H' pv => ?_
    · have hi0 : i = 0 := by
        have := (List.getElem?_eq_some_iff.mp e).1
        simp [tuples] at this
        exact this
      subst hi0
      cases e
      exact ⟨p0, rfl, npl, by rw [upd_ne npl]; exact upd_same⟩
    · obtain ⟨p, x0, x4, x5, rs, rfl, sm, hp, hp', rf⟩ := pv
      obtain ⟨rfl, rfl⟩ := y
      have l9 := tuples_729 ks hk9 (n := i) (by omega)
      refine ⟨Nat.zero_le _, fun b hb => ?_⟩
      have sb := same_upd (o := .lst []) hb
      refine ⟨_, rfl, p, _, rfl, .inl (SqL.of (sb _ _ hp')), fun u hu => ?_⟩
      have su := same_upd (o := .lst rs) hu
      have bu : b ≠ u := fun e => by
        rw [← e, upd_same] at hu
        cases hu
      refine ⟨u, rfl, ⟨_, SqL.of upd_same⟩, ?_⟩
      refine for_it (walk_list (xs := rs)) (fun j σ H2 => ∃ (x5 : Option V) (acc : List V), σ = [some (.ref k), some (.int (m : Int)), some (.ref p), some (.int (0 + (i : Nat))), some (.ref b), x5, none] ∧ Same H' H2 ∧ H2 b = some (.lst acc) ∧ H2 u = some (.lst rs) ∧ LX H2 (fun q => q = b) encT acc (((tuples ks i).take j).flatMap fun one => ks.map fun l => one ++ [l]))
        ⟨x5, [], rfl, sb.trans su, by rw [upd_ne bu]; exact upd_same, upd_same, by simpa using LX.nil⟩ (fun j σ H2 _ pv => let ⟨_, _, _, _, _, h, _⟩ := pv; SqL.of h) (fun j x σ H2 H3 hj pv y => ?_) fun σ H2 pv => ?_
      · obtain ⟨x5', acc, rfl, s2, ha, hu2, ra⟩ := pv
        obtain ⟨rfl, hx⟩ := y
        obtain ⟨one, ho⟩ : ∃ one, (tuples ks i)[j]? = some one := ⟨(tuples ks i)[j]'(by rw [← rf.len]; exact hj), by simp [← rf.len, hj]⟩
        obtain ⟨o, ho1, _, ho2⟩ := rf.at_ j one ho
        rw [hx] at ho1
        cases ho1
        have one3 : one.length = i := ((mem_tuples ks i one).mp (List.mem_of_getElem? ho)).1
        refine ⟨_, rfl, .inl ⟨rfl, _, SqL.of ha⟩, _, rfl, k, rfl, ⟨_, (sm.trans s2).seq hk⟩, fun D hD => ?_⟩
        refine lc_rl (walk_list (xs := ks.map vS)) ks (fun l v H => ∃ q, v = V.ref q ∧ ¬ (q = b ∨ q = D) ∧ H q = some (.lst (encT (one ++ [l])))) (by rw [List.length_map]) (by rw [List.length_map]; omega) hD
          (fun H' s' => ((sm.trans s2).trans s').seq hk) (fun a v H H' bt ⟨q, h1, h2, h3⟩ => ⟨q, h1, h2, bt _ _ (fun e => h2 (.inr e)) h3⟩) (fun n l x H4 H5 Qy hn hl s4 hD4 yl qy => ?_) fun H4 ys s4 hys hlen hP => ?_
        · obtain ⟨rfl, hx⟩ := yl
          obtain ⟨l', hl', rfl⟩ := map_take _ _ _ _ hx
          rw [hl'] at hl
          cases hl
          refine ⟨rfl, _, rfl, _, rfl, one_, fun e0 he0 => ?_⟩
          refine ⟨o, e0, _, _, rfl, rfl, (same_upd he0) _ _ (s4 _ _ (s2 _ _ ho2)), upd_same, ?_, fun n0 hn0 => ?_⟩
          · rw [List.length_map]
            exact Nat.le_of_lt (small24 (by simp; omega))
          · refine qy _ _ ⟨n0, rfl, ?_, ?_⟩ ((same_upd he0).trans (same_upd hn0))
            · rintro (e | e)
              · rw [e, (same_upd he0) _ _ (s4 _ _ ha)] at hn0
                cases hn0
              · rw [e] at hn0
                refine hD4 ?_
                cases hh : H5 D with
                | none => rfl
                | some o => rw [(same_upd he0) _ _ hh] at hn0; cases hn0
            · rw [upd_same]
              show some (HO.lst (one.map vS ++ [vS l])) = some (.lst ((one ++ [l]).map vS))
              rw [List.map_append]
              rfl
        · have jl : (((tuples ks i).take j).flatMap fun one => ks.map fun l => one ++ [l]).length ≤ 729 * 9 := by
            have h1 := flatMap_len (f := fun one : List (List Nat) => ks.map fun l => one ++ [l]) (n := 9) (l := (tuples ks i).take j) fun a _ => by
              rw [List.length_map]
              exact hk9
            rw [List.length_take] at h1
            have : min j (tuples ks i).length ≤ 729 := by omega
            omega
          have al := ra.len
          refine ⟨b, D, _, _, rfl, rfl, s4 _ _ ha, hys, ?_, ?_⟩
          · exact Nat.le_of_lt (small24 (by omega))
          have ub : u ≠ b := Ne.symm bu
          refine ⟨_, _, rfl, same_f (s2.trans s4) hb, upd_same, by rw [upd_ne ub]; exact s4 _ _ hu2, ?_⟩
          rw [take_fl _ _ _ _ ho]
          refine LX.upd (LX.app (ra.same s4) ?_) rfl
          have : LX H4 (fun q => q = b) encT ys (ks.map fun l => one ++ [l]) := by
            refine LX.ofP (by rw [List.length_map]; exact hlen) fun n a y h1 h2 => ?_
            obtain ⟨l', hl', rfl⟩ := map_take _ _ _ _ h1
            obtain ⟨q, g1, g2, g3⟩ := hP n l' y hl' h2
            exact ⟨q, g1, fun e => g2 (.inl e), g3⟩
          exact this
      · obtain ⟨x5', acc, rfl, s2, ha, hu2, ra⟩ := pv
        rw [rf.len, List.take_length] at ra
        exact ⟨_, rfl, b, _, _, _, acc, rfl, sm.trans s2, none_of sm hb, ha, ra⟩
    · obtain ⟨p, x0, x4, x5, rs, rfl, sm, hp, hp', rf⟩ := pv
      exact ⟨_, rfl, q H' p rs sm hp hp' rf⟩
end
end K27W
/-! K27: kids, stands, cans, tops. -/
namespace K27W
open PySem PySem.Spec PyProof.Rows L2 K27R
theorem neg_ix (n d w : Nat) (hw : 1 ≤ w) : HT.sIx n d (some (-(w : Int))) = n - w := by
  show (if -(w : Int) < 0 then (-(w : Int) + (n : Int)).toNat else _) = _
  rw [if_pos (by omega)]
  omega
theorem cut_hi (l : List Nat) (w : Nat) (hw : 1 ≤ w) : cutV (encI l) (some (-(w : Int))) none = encI (l.drop (l.length - w)) := by
  unfold cutV
  have e : (encI l).length = l.length := List.length_map ..
  rw [e, neg_ix _ _ _ hw, HT.sIx_none, ← List.map_drop, List.take_of_length_le]
  rw [List.length_map, List.length_drop]
  omega
theorem cut_lo (l : List Nat) (w : Nat) (hw : 1 ≤ w) : cutV (encI l) none (some (-(w : Int))) = encI (l.take (l.length - w)) := by
  unfold cutV
  have e : (encI l).length = l.length := List.length_map ..
  rw [e, neg_ix _ _ _ hw, HT.sIx_none, List.drop_zero, ← List.map_take]
  rfl
theorem walk_down {lo : Int} {n : Nat} (h : lo = (n : Int) - 1) : Walk (Itc lo (-1) n) n (fun _ => True) (fun i H x H' => H' = H ∧ x = .int ((n - 1 - i : Nat) : Int)) := by
  refine walk_rangeC.mono (fun _ _ => trivial) fun i H x H' hi _ y => ?_
  obtain ⟨h1, rfl⟩ := y
  refine ⟨h1, ?_⟩
  show V.int (lo + (i : Nat) * -1) = _
  congr 1
  omega
theorem desc_get {n i : Nat} (h : i < n) : (K27.desc 0 n)[i]? = some (n - 1 - i) := by
  unfold K27.desc
  rw [List.getElem?_reverse (by rw [List.length_range']; exact h), List.length_range', List.getElem?_range' (by omega)]
  simp
theorem desc_len (n : Nat) : (K27.desc 0 n).length = n := by
  unfold K27.desc
  rw [List.length_reverse, List.length_range']
theorem krun_succ {w : Nat} {t : List Nat} {st : List (List Nat) × List Nat} {ks : List Nat} {i k : Nat} (h : ks[i]? = some k) : K27.krun w t st (ks.take (i + 1)) = K27.kstep w t (K27.krun w t st (ks.take i)) k := by
  unfold K27.krun
  rw [List.take_add_one, h, List.foldl_append]
  rfl
theorem crun_succ {g : K27.Grid} {Ks C : List (List Nat)} {ks : List Nat} {i k : Nat} (h : ks[i]? = some k) : K27.crun g Ks C (ks.take (i + 1)) = K27.cstep g Ks (K27.crun g Ks C (ks.take i)) k := by
  unfold K27.crun
  rw [List.take_add_one, h, List.foldl_append]
  rfl
structure KB (w n : Nat) (st : List (List Nat) × List Nat) : Prop where
  len : st.1.length = n
  kid : ∀ m ∈ st.1, m.length ≤ w ∧ ∀ x ∈ m, x < n
  top : ∀ x ∈ st.2, x < n
theorem KB.step {w n k : Nat} {t : List Nat} {st : List (List Nat) × List Nat} (h : KB w n st) (hk : k < n) : KB w n (K27.kstep w t st k) := by
  unfold K27.kstep
  have tp : ∀ l : List Nat, (∀ x ∈ l, x < n) → ∀ x ∈ l ++ [k], x < n := fun l hl x hx => by
    rcases List.mem_append.mp hx with hx | hx
    · exact hl x hx
    · rw [List.mem_singleton.mp hx]
      exact hk
  by_cases e : t[k]? = some 43
  · rw [if_pos e]
    refine ⟨by rw [List.length_set]; exact h.len, fun m hm => ?_, tp _ fun x hx => h.top x (List.mem_of_mem_take hx)⟩
    rcases List.mem_or_eq_of_mem_set hm with hm | rfl
    · exact h.kid m hm
    · refine ⟨by rw [List.length_reverse, List.length_drop]; omega, fun x hx => ?_⟩
      exact h.top x (List.mem_of_mem_drop (List.mem_reverse.mp hx))
  · rw [if_neg e]
    exact ⟨h.len, h.kid, tp _ h.top⟩
theorem KB.run {w n : Nat} {t : List Nat} : ∀ {ks : List Nat} {st : List (List Nat) × List Nat}, KB w n st → (∀ k ∈ ks, k < n) → KB w n (K27.krun w t st ks)
  | [], _, h, _ => h
  | k :: ks, st, h, hk => KB.run (ks := ks) (h.step (hk k List.mem_cons_self)) fun x hx => hk x (List.mem_cons_of_mem _ hx)
theorem kids_kb (w : Nat) (t : List Nat) : KB w t.length (K27.krun w t (List.replicate t.length [], []) (K27.desc 0 t.length)) := by
  refine KB.run ⟨List.length_replicate, fun m hm => ?_, fun x hx => nomatch hx⟩ fun k hk => ?_
  · rw [(List.mem_replicate.mp hm).2]
    exact ⟨Nat.zero_le _, fun x hx => nomatch hx⟩
  · have := K27.mem_desc.mp hk
    omega
theorem plus_iff (c : Nat) : decide (V.str ⟨#[c]⟩ = V.str (Str.ofString "+")) = decide (c = 43) := by
  have e : (Str.ofString "+" : Str) = S [43] := by decide +kernel
  rw [e, Bool.eq_iff_iff, decide_eq_true_eq, decide_eq_true_eq]
  constructor
  · intro h
    have h2 : S [c] = S [43] := V.str.inj h
    simpa using S_inj h2
  · rintro rfl
    rfl
abbrev n_law_kids : List Str := ["_law_width", "_law_tree", "_law_k", "_law_found", "_law_tops_here", "_law_sign"]
theorem sc_law_kids : FnScope n_law_kids ["_law_width", "_law_tree"] (defScope (top 23)) := ⟨rfl, rfl, rfl, by decide +kernel, rfl, by decide +kernel, by decide +kernel⟩
def spKid : Sp := fun vs H Q _ => ∃ (w : Nat) (t : List Nat), vs = [.int (w : Int), vS t] ∧ 1 ≤ w ∧ w ≤ 3 ∧ t.length ≤ 300 ∧ ∀ H' f rs, Same H H' → H f = none → H' f = some (.lst rs) → LX H' (fun q => q = f) encI rs (K27.kids w t) → Q (.ref f) H'
section
variable {P : Program} {w : World} {K : PySem.W.Frag} {mg : Str → Option Value} {base : Heap}
theorem c_kids {f : Addr} {fd : FuncData} (F : FnP K "_law_kids" 23 f fd) (hm : mg "_law_kids" = some (.ref f)) (B : Free mg) : Cal P w K mg base 1 "_law_kids" spKid := by
  refine cal_of F hm sc_law_kids (fun _ _ _ _ _ _ us hl => match us, hl with | [_, _], _ => rfl) (fun vs H Q E h => ?_) (fun cdv A outer s H vs Q E hr h => ?_)
  · obtain ⟨w, t, rfl, _⟩ := h
    rfl
  · obtain ⟨w, t, rfl, hw1, hw3, hz, q⟩ := h
    have nd := sc_law_kids.nd
    have hu := hu_of hr
    refine ⟨_, pss_cons (ps_par (i := 3) (j := 4) (by rfl) nd rfl rfl (by decide) rfl rfl (pa_cons (pe_lc (own := [("_law_sign", 5)]) (g := gName 5) (by rfl) nd (pi_str (pv 1)) (blkOk_by (own := [("_law_sign", 5)]) (N := n_law_kids) (sc := defScope (top 23)) (by decide +kernel)) (fun _ _ _ _ _ => pg_name (i := 5) nd rfl (Or.inl rfl)) (fun _ _ _ _ _ => pts_nil) (fun _ _ _ _ _ => pe_lst pa_nil)) (pa_cons (pe_lst pa_nil) pa_nil)) (by rfl))
      (pss_cons (ps_for PassesOwn.never rfl (pi_range3 (by rfl) B.range (pa_cons (pe_op op_sub (pe_callB call_len_str (by rfl) B.len (by decide +kernel) (pa_cons (pv 1) pa_nil)) pe_int) (pa_cons (pe_un un_neg pe_int) (pa_cons (pe_un un_neg pe_int) pa_nil)))) (pg_name (i := 2) nd rfl (Or.inl rfl)) (pss_cons (ps_if (pt_cmpR op_eq (pe_ix ix_str (pv 1) (pv 2) (fun _ _ => rfl)) pe_str (nomark _)) (pss_cons (ps_asg (pe_revLK K (pe_slice (sl_listK K) (pv 4) (po_some (pe_un un_neg (pv 0))) po_none)) (pg_sub (pv 3) (pv 2) set_list))
          (pss_one (ps_set (i := 4) nd rfl (Or.inl rfl) (pe_slice (sl_listK K) (pv 4) po_none (po_some (pe_un un_neg (pv 0))))))) pss_nil)
        (pss_one (ps_expr (pe_bmK K PySem.F.plainAttrs_list PySem.F.slot_list_append PySem.F.type_list_append mt_append (pv 4) (pa_cons (pv 2) pa_nil))))))
      (pss_one (ps_ret (pv 3)))), ?_⟩
    have St : (S t).length = t.length := S_len t
    have sz : (S t).length ≤ sizeLine := Nat.le_of_lt (small24 (by omega))
    refine ⟨_, rfl, S t, rfl, fun D hD => ?_⟩
    refine lc_rl (walk_txt t) t (fun _ v H => ∃ q, v = V.ref q ∧ ¬ q = D ∧ H q = some (.lst (encI []))) rfl (by omega) hD (fun _ _ => trivial) (fun a v H H' bt ⟨q, h1, h2, h3⟩ => ⟨q, h1, h2, bt _ _ h2 h3⟩) (fun n l x H4 H5 Qy hn hl s4 hD4 yl qy => ?_) fun H2 ys s2 hys hlen hP => ?_
    · obtain ⟨rfl, c, hc, rfl⟩ := yl
      refine ⟨rfl, Nat.zero_le _, fun z hz => qy _ _ ⟨z, rfl, ?_, upd_same⟩ (same_upd hz)⟩
      intro e
      rw [e] at hz
      exact hD4 hz
    refine ⟨Nat.zero_le _, fun tp htp => ⟨_, _, rfl, ?_⟩⟩
    have lx0 : LX H2 (fun q => q = D) encI ys (List.replicate t.length ([] : List Nat)) := by
      refine LX.ofP (by rw [List.length_replicate]; exact hlen) fun i a y h1 h2 => ?_
      have hi : i < t.length := by
        have := (List.getElem?_eq_some_iff.mp h1).1
        rwa [List.length_replicate] at this
      rw [List.getElem?_replicate, if_pos hi] at h1
      cases h1
      exact hP i t[i] y (List.getElem?_eq_getElem hi) h2
    have tD : tp ≠ D := fun e => by
      rw [e, hys] at htp
      cases htp
    have eN : ((((S t).length : Nat) : Int) - 1 - -1).toNat = t.length := by omega
    refine ⟨_, rfl, S t, rfl, sz, _, _, rfl, rfl, 1, rfl, 1, rfl, _, _, _, _, rfl, RgC.neg (by omega) (by omega) (by decide) (by decide), ?_⟩
    rw [eN]
    refine for_it (walk_down (lo := (((S t).length : Nat) : Int) - 1) (n := t.length) (by omega)) (fun i σ H' => ∃ (x : Option V) (tq : Addr) (rs : List V), σ = [some (.int (w : Int)), some (vS t), x, some (.ref D), some (.ref tq), none] ∧ Same H H' ∧ H' D = some (.lst rs) ∧
      H' tq = some (.lst (encI (K27.krun w t (List.replicate t.length [], []) ((K27.desc 0 t.length).take i)).2)) ∧ tq ≠ D ∧ H tq = none ∧ LX H' (fun q => q = D ∨ q = tq) encI rs (K27.krun w t (List.replicate t.length [], []) ((K27.desc 0 t.length).take i)).1)
      ⟨none, tp, ys, rfl, s2.trans (same_upd htp), by rw [upd_ne (Ne.symm tD)]; exact hys, upd_same, tD, none_of s2 htp, (lx0.fresh htp).upd (.inr rfl)⟩ (fun _ _ _ _ _ => trivial) (fun i x σ H1 H' hi pv y => ?_) fun σ H' pv => ?_
    · obtain ⟨x0, tq, rs, rfl, sm, hD', ht', ntD, t0, lx⟩ := pv
      obtain ⟨rfl, rfl⟩ := y
      have dk := desc_get hi
      have kt : t.length - 1 - i < t.length := by omega
      generalize t.length - 1 - i = k at *
      obtain ⟨c, hc⟩ : ∃ c, t[k]? = some c := ⟨t[k], List.getElem?_eq_getElem kt⟩
      have kb : KB w t.length (K27.krun w t (List.replicate t.length [], []) ((K27.desc 0 t.length).take i)) := by
        refine KB.run ⟨List.length_replicate, fun m hm => ?_, fun x hx => nomatch hx⟩ fun k hk => ?_
        · rw [(List.mem_replicate.mp hm).2]
          exact ⟨Nat.zero_le _, fun x hx => nomatch hx⟩
        · have := K27.mem_desc.mp (List.mem_of_mem_take hk)
          omega
      have ks := krun_succ (w := w) (t := t) (st := (List.replicate t.length [], [])) dk
      have tops_len : ∀ (ks : List Nat) (st : List (List Nat) × List Nat), (K27.krun w t st ks).2.length ≤ st.2.length + ks.length := by
        intro ks
        induction ks with
        | nil => exact fun st => Nat.le_refl _
        | cons k ks ih =>
          intro st
          have h1 := ih (K27.kstep w t st k)
          have h2 : (K27.kstep w t st k).2.length ≤ st.2.length + 1 := by
            unfold K27.kstep
            split
            · show (st.2.take _ ++ [k]).length ≤ _
              rw [List.length_append, List.length_take, List.length_singleton]
              omega
            · show (st.2 ++ [k]).length ≤ _
              rw [List.length_append, List.length_singleton]
              omega
          show (K27.krun w t (K27.kstep w t st k) ks).2.length ≤ _
          rw [List.length_cons]
          omega
      have tl := tops_len ((K27.desc 0 t.length).take i) (List.replicate t.length [], [])
      rw [List.length_take, desc_len] at tl
      have tl' : (K27.krun w t (List.replicate t.length [], []) ((K27.desc 0 t.length).take i)).2.length ≤ 300 := by
        have : ([] : List Nat).length = 0 := rfl
        show _ ≤ 300
        simp at tl
        omega
      generalize hst : K27.krun w t (List.replicate t.length [], []) ((K27.desc 0 t.length).take i) = st at *
      rw [ks]
      refine ⟨_, rfl, _, rfl, S t, _, c, rfl, rfl, sz, atI_nat (by simpa using hc), rfl, _, rfl, ?_⟩
      rw [plus_iff]
      by_cases h43 : c = 43
      · rw [decide_eq_true h43]
        subst h43
        have ekk : K27.kstep w t st k = (st.1.set k (st.2.drop (st.2.length - w)).reverse, st.2.take (st.2.length - w) ++ [k]) := by
          unfold K27.kstep
          rw [if_pos hc]
        rw [ekk]
        refine iteT ⟨_, rfl, _, rfl, (w : Int), rfl, _, rfl, tq, _, rfl, SqL.of ht', fun z1 hz1 => ?_⟩
        rw [cut_hi _ _ hw1]
        have s1 := same_upd (o := .lst (encI (st.2.drop (st.2.length - w)))) hz1
        refine ⟨z1, _, rfl, SqL.of upd_same, fun z2 hz2 => ?_⟩
        have erev : (encI (st.2.drop (st.2.length - w))).reverse = encI (st.2.drop (st.2.length - w)).reverse := (List.map_reverse ..).symm
        rw [erev]
        have s12 := s1.trans (same_upd (o := .lst (encI (st.2.drop (st.2.length - w)).reverse)) hz2)
        have z2D : z2 ≠ D := fun e => by
          rw [e, s1 _ _ hD'] at hz2
          cases hz2
        have z2t : z2 ≠ tq := fun e => by
          rw [e, s1 _ _ ht'] at hz2
          cases hz2
        refine ⟨_, rfl, _, rfl, D, _, _, k, rfl, rfl, s12 _ _ hD', ?_, ?_⟩
        · unfold ixN
          have : rs.length = t.length := by rw [lx.len, kb.len]
          rw [if_pos (by omega), if_pos (by omega), Int.toNat_natCast]
        have sD : Same H (L2.upd (L2.upd (L2.upd H' z1 (.lst (encI (st.2.drop (st.2.length - w))))) z2 (.lst (encI (st.2.drop (st.2.length - w)).reverse))) D (.lst (rs.set k (.ref z2)))) := same_f (sm.trans s12) hD
        refine ⟨_, rfl, _, rfl, (w : Int), rfl, _, rfl, tq, _, rfl, SqL.of (by rw [upd_ne (Ne.symm (Ne.symm ntD))]; exact s12 _ _ ht'), fun z3 hz3 => ?_⟩
        rw [cut_lo _ _ hw1]
        have z3D : z3 ≠ D := fun e => by
          rw [e, upd_same] at hz3
          cases hz3
        refine ⟨_, rfl, .inl ⟨rfl, _, SqL.of upd_same⟩, _, rfl, z3, _, _, rfl, rfl, upd_same, ?_, ?_⟩
        · rw [List.length_map, List.length_take]
          exact small24 (by omega)
        · refine ⟨_, z3, rs.set k (.ref z2), rfl, same_f (sD.trans (same_upd hz3)) (none_of sD hz3), ?_, ?_, z3D, none_of sD hz3, ?_⟩
          · rw [upd_ne (Ne.symm z3D), upd_ne (Ne.symm z3D)]
            exact upd_same
          · rw [upd_same]
            show some (HO.lst (encI _ ++ [V.int ((k : Nat) : Int)])) = some (.lst (encI (_ ++ [k])))
            unfold encI
            rw [List.map_append]
            rfl
          · have l1 : LX (L2.upd (L2.upd (L2.upd H' z1 (.lst (encI (st.2.drop (st.2.length - w))))) z2 (.lst (encI (st.2.drop (st.2.length - w)).reverse))) D (.lst (rs.set k (.ref z2)))) (fun q => q = D) encI (rs.set k (.ref z2)) (st.1.set k (st.2.drop (st.2.length - w)).reverse) :=
              LX.upd (LX.set ((lx.same s12).imp (fun q e => .inl e)) upd_same z2D) rfl
            exact ((l1.fresh hz3).upd (.inr rfl)).upd (.inr rfl)
      · rw [decide_eq_false h43]
        have ekk : K27.kstep w t st k = (st.1, st.2 ++ [k]) := by
          unfold K27.kstep
          rw [if_neg]
          rw [hc]
          exact fun e => h43 (Option.some.inj e)
        rw [ekk]
        refine iteF ⟨_, rfl, .inl ⟨rfl, _, SqL.of ht'⟩, _, rfl, tq, _, _, rfl, rfl, ht', ?_, ?_⟩
        · rw [List.length_map]
          exact small24 (by omega)
        · refine ⟨_, tq, rs, rfl, same_f sm t0, by rw [upd_ne (Ne.symm ntD)]; exact hD', ?_, ntD, t0, lx.upd (.inr rfl)⟩
          rw [upd_same]
          show some (HO.lst (encI st.2 ++ [V.int ((k : Nat) : Int)])) = some (.lst (encI (st.2 ++ [k])))
          unfold encI
          rw [List.map_append]
          rfl
    · obtain ⟨x0, tq, rs, rfl, sm, hD', ht', ntD, t0, lx⟩ := pv
      have e : (K27.desc 0 t.length).take t.length = K27.desc 0 t.length := by
        conv => lhs; rw [← desc_len t.length]
        rw [desc_len, List.take_of_length_le (by rw [desc_len]; exact Nat.le_refl _)]
      rw [e] at lx
      exact ⟨_, rfl, q _ D rs sm hD hD' (lx.imp fun q e => .inl e)⟩
end
end K27W
/-! K27: stands, cans, tops. -/
namespace K27W
open PySem PySem.Spec PyProof.Rows L2 K27R
theorem inV_one (c : Nat) (l : List Nat) : inV (vS [c]) (encO l) = decide (c ∈ l) := by
  unfold inV encO
  rw [List.any_map, Bool.eq_iff_iff, List.any_eq_true, decide_eq_true_eq]
  have e : ∀ d : Nat, ((fun y => eqV y (vS [c])) ∘ fun c => vS [c]) d = decide (d = c) := fun d => by
    show (S [d] == S [c]) = _
    rw [SX.S_beq_eq]
    simp
  constructor
  · rintro ⟨d, hd, h⟩
    rw [e] at h
    rw [← of_decide_eq_true h]
    exact hd
  · intro h
    exact ⟨c, h, by rw [e]; simp⟩
theorem flat_encO (l : List Nat) : (encO l).all flatV = true := by
  unfold encO
  rw [List.all_map, List.all_eq_true]
  exact fun _ _ => rfl
abbrev n_law_stands : List Str := ["_law_cans_here", "_law_kids_here", "_law_ways_here", "_law_way", "_law_j"]
theorem sc_law_stands : FnScope n_law_stands ["_law_cans_here", "_law_kids_here", "_law_ways_here"] (defScope (top 26)) := ⟨rfl, rfl, rfl, by decide +kernel, rfl, by decide +kernel, by decide +kernel⟩
def spSta (K : PySem.W.Frag) : Sp := fun vs H Q _ => ∃ (fc kq wq : Addr) (g : K27.Grid) (rs : List V) (C : List (List Nat)) (ks : List Nat) (a : Nat) (ys : List (List Nat)), vs = [.ref fc, .ref kq, .ref wq] ∧ H fc = some (.lst rs) ∧ LX H (fun _ => False) encO rs C ∧ H kq = some (.lst (encI ks)) ∧
  H wq = some (.lst (ys.map vS)) ∧ (∀ y, y ∈ ys ↔ g.Way a y) ∧ Good g ∧ ks.length ≤ g.w ∧ (∀ q ∈ ks, q < C.length) ∧ ys.length ≤ 432 ∧ ∀ H' b, Same H H' → (b = true ↔ K27.Stands g C ks a) → Q (.bl b) H'
def Bad2 (y ks : List Nat) (C : List (List Nat)) (j : Nat) : Prop := ∃ c q, y[j]? = some c ∧ ks[j]? = some q ∧ c ∉ C.getD q []
section
variable {P : Program} {w : World} {K : PySem.W.Frag} {mg : Str → Option Value} {base : Heap}
theorem c_stands {f : Addr} {fd : FuncData} (F : FnP K "_law_stands" 26 f fd) (hm : mg "_law_stands" = some (.ref f)) (B : Free mg) : Cal P w K mg base 1 "_law_stands" (spSta K) := by
  refine cal_of F hm sc_law_stands (fun _ _ _ _ _ _ us hl => match us, hl with | [_, _, _], _ => rfl) (fun vs H Q E h => ?_) (fun cdv A outer s H vs Q E hr h => ?_)
  · obtain ⟨fc, kq, wq, g, rs, C, ks, a, ys, rfl, _⟩ := h
    rfl
  · obtain ⟨fc, kq, wq, g, rs, C, ks, a, ys, rfl, hf, lx, hk, hw, hys, ok, kw, kC, yl, q⟩ := h
    have nd := sc_law_stands.nd
    have hu := hu_of hr
    refine ⟨_, pss_cons (ps_for PassesOwn.never rfl (pi_listK K (pv 2)) (pg_name (i := 3) nd rfl (Or.inr rfl)) (pss_one (ps_if (pt_cmpR (op_eqDK K hr.units) (pe_lc (own := [("_law_j", 4)]) (g := gName 4) (by rfl) nd (pi_range1 (by rfl) B.range (pa_cons (pe_callB (len_seqK K) (by rfl) B.len (by decide +kernel) (pa_cons (pv 1) pa_nil)) pa_nil)) (blkOk_by (own := [("_law_j", 4)]) (N := n_law_stands) (sc := defScope (top 26)) (by decide +kernel)) (fun _ _ _ _ _ => pg_name (i := 4) nd rfl (Or.inl rfl)) (fun _ _ _ _ _ => pts_one (pt_cmpR (op_notInK K) (pe_ix ix_str (pv 3) (pv 4) (fun _ _ => rfl)) (pe_ix (ix_listK K) (pv 0) (pe_ix (ix_listK K) (pv 1) (pv 4) (fun _ _ => rfl)) (fun _ _ => rfl)) (by with_unfolding_all rfl))) (fun _ _ _ _ _ => pv 4)) (pe_lst pa_nil) (nomark _)) (pss_one (ps_ret pe_bl)) pss_nil)))
      (pss_one (ps_ret (pe_cmpR (op_eqDK K hr.units) (pv 1) (pe_lst pa_nil) (nomark _)))), ?_⟩
    have w23 := ok.ok.w23
    classical
    refine ⟨_, rfl, wq, rfl, ⟨_, SqL.of hw⟩, ?_⟩
    refine for_it (walk_list (xs := ys.map vS)) (fun i σ H' => ∃ x : Option V, σ = [some (.ref fc), some (.ref kq), some (.ref wq), x, none] ∧ Same H H' ∧ ∀ y ∈ ys.take i, ∃ j, j < ks.length ∧ Bad2 y ks C j)
      ⟨none, rfl, Same.refl _, fun y hy => absurd hy (by simp)⟩ (fun i σ H' _ pv => let ⟨_, _, s, _⟩ := pv; s.seq (SqL.of hw)) (fun i x σ H1 H' hi pv y => ?_) fun σ H' pv => ?_
    · obtain ⟨x0, rfl, sm, hbad⟩ := pv
      obtain ⟨rfl, hx⟩ := y
      obtain ⟨y, hy, rfl⟩ := map_take _ _ _ _ hx
      have hwy := (hys y).mp (List.mem_of_getElem? hy)
      have ylen := way_len ok hwy
      have Sy : (S y).length = y.length := S_len y
      have sz : (S y).length ≤ sizeLine := Nat.le_of_lt (small24 (by omega))
      have ekl : (encI ks).length = ks.length := List.length_map ..
      refine ⟨_, rfl, kq, _, rfl, .inl (SqL.of (sm _ _ hk)), _, rfl, by rw [ekl]; omega, by rw [ekl]; omega, fun D hD => ?_⟩
      refine lc_fl (walk_range (lo := 0)) (List.range ks.length) (fun j => if Bad2 y ks C j then some (.int (j : Int)) else none) (by rw [List.length_range, ekl]; rfl) (by rw [ekl]; show ks.length ≤ _; omega) hD (fun _ _ => trivial) (fun k k' x H5 H6 Qy Qn hk' hkk s5 _ yl2 qy qn => ?_) fun H5 s5 h5 => ?_
      · obtain ⟨rfl, rfl⟩ := yl2
        have hk2 : k < ks.length := by
          rw [ekl] at hk'
          exact hk'
        have ek : k' = k := by
          rw [List.getElem?_range hk2] at hkk
          exact (Option.some.inj hkk).symm
        subst ek
        obtain ⟨c', hc'⟩ : ∃ c', y[k']? = some c' := ⟨y[k']'(by omega), List.getElem?_eq_getElem (by omega)⟩
        obtain ⟨p', hp'⟩ : ∃ p', ks[k']? = some p' := ⟨ks[k'], List.getElem?_eq_getElem hk2⟩
        have pC := kC p' (List.mem_of_getElem? hp')
        obtain ⟨l', hl'⟩ : ∃ l', C[p']? = some l' := ⟨C[p'], List.getElem?_eq_getElem pC⟩
        obtain ⟨qa, hq1, _, hq2⟩ := lx.at_ p' l' hl'
        have z0 : (0 : Int) + (k' : Nat) = ((k' : Nat) : Int) := by omega
        have s25 := sm.trans s5
        refine ⟨rfl, _, rfl, _, rfl, _, _, c', rfl, rfl, sz, by rw [z0]; exact atI_nat (by simpa using hc'), _, rfl, _, rfl, _, rfl, kq, _, _, .int ((p' : Nat) : Int), rfl, rfl, SqL.of (s25 _ _ hk), by rw [z0]; exact atI_nat (by rw [List.getElem?_map, hp']; rfl),
          fc, rs, _, .ref qa, rfl, rfl, SqL.of (s25 _ _ hf), atI_nat hq1, qa, encO l', rfl, .inl (SqL.of (s25 _ _ hq2)), rfl, flat_encO l', _, rfl, ?_⟩
        have ed : (if true = true then !inV (V.str ⟨#[c']⟩) (encO l') else inV (V.str ⟨#[c']⟩) (encO l')) = decide (Bad2 y ks C k') := by
          rw [if_pos rfl]
          have e1 : inV (V.str ⟨#[c']⟩) (encO l') = decide (c' ∈ l') := inV_one c' l'
          rw [e1, Bool.eq_iff_iff, Bool.not_eq_true', decide_eq_false_iff_not, decide_eq_true_eq]
          constructor
          · exact fun h => ⟨c', p', hc', hp', by rw [List.getD_eq_getElem?_getD, hl']; exact h⟩
          · rintro ⟨c2, p2, h1, h2, h3⟩
            rw [hc'] at h1
            rw [hp'] at h2
            cases h1
            cases h2
            rw [List.getD_eq_getElem?_getD, hl'] at h3
            exact h3
        rw [ed]
        by_cases hb : Bad2 y ks C k'
        · rw [decide_eq_true hb]
          refine iteT ⟨_, rfl, qy _ _ ?_ (Same.refl _)⟩
          rw [if_pos hb]
          show some (V.int _) = some (V.int (0 + _))
          rw [z0]
        · rw [decide_eq_false hb]
          refine iteF (qn _ ?_ (Same.refl _))
          rw [if_neg hb]
      · rw [fm_if (fun j => Bad2 y ks C j)] at h5
        refine ⟨Nat.zero_le _, fun e0 he0 => ?_⟩
        obtain ⟨ds, fd⟩ := FlatL.ints (((List.range ks.length).filter fun j => decide (Bad2 y ks C j)).map fun j => ((j : Nat) : Int))
        refine eq_nil (K := K) (xs := (((List.range ks.length).filter fun j => decide (Bad2 y ks C j)).map fun j => ((j : Nat) : Int)).map V.int) (SqL.of ?_) (SqL.of upd_same) fd ⟨_, rfl, ?_⟩
        · rw [(same_upd he0) _ _ h5, List.map_map]
          rfl
        · have em : ((((List.range ks.length).filter fun j => decide (Bad2 y ks C j)).map fun j => ((j : Nat) : Int)).map V.int).isEmpty = decide (∀ j, j < ks.length → ¬ Bad2 y ks C j) := by
            rw [Bool.eq_iff_iff, List.isEmpty_iff, List.map_eq_nil_iff, List.map_eq_nil_iff, List.filter_eq_nil_iff, decide_eq_true_eq]
            constructor
            · intro h j hj hb
              exact h j (List.mem_range.mpr hj) (decide_eq_true hb)
            · intro h j hj hb
              exact h j (List.mem_range.mp hj) (of_decide_eq_true hb)
          rw [em]
          have s6 := sm.trans (s5.trans (same_upd (o := .lst []) he0))
          by_cases hall : ∀ j, j < ks.length → ¬ Bad2 y ks C j
          · rw [decide_eq_true hall]
            refine iteT (q _ true s6 ⟨fun _ => .inr ⟨y, hwy, fun j c p h1 h2 => ?_⟩, fun _ => rfl⟩)
            exact Classical.byContradiction fun h3 => hall j (List.getElem?_eq_some_iff.mp h2).1 ⟨c, p, h1, h2, h3⟩
          · rw [decide_eq_false hall]
            refine iteF ⟨_, rfl, s6, fun z hz => ?_⟩
            rw [List.take_add_one, hy] at hz
            rcases List.mem_append.mp hz with hz | hz
            · exact hbad z hz
            · have : z = y := by simpa using hz
              subst this
              refine Classical.byContradiction fun h3 => hall fun j hj hb => h3 ⟨j, hj, hb⟩
    · obtain ⟨x0, rfl, sm, hbad⟩ := pv
      have e : (ys.map vS).length = ys.length := List.length_map ..
      rw [e, List.take_length] at hbad
      refine ⟨_, rfl, Nat.zero_le _, fun e0 he0 => ?_⟩
      obtain ⟨ds, fd⟩ := FlatL.ints (ks.map fun j => ((j : Nat) : Int))
      refine eq_nil (K := K) (xs := (ks.map fun j => ((j : Nat) : Int)).map V.int) (SqL.of ?_) (SqL.of upd_same) fd (q _ _ (sm.trans (same_upd he0)) ?_)
      · rw [(same_upd he0) _ _ (sm _ _ hk), List.map_map]
        rfl
      · rw [List.isEmpty_iff, List.map_eq_nil_iff, List.map_eq_nil_iff]
        constructor
        · exact fun h => .inl h
        · rintro (h | ⟨y, h1, h2⟩)
          · exact h
          · obtain ⟨j, _, c, p, g1, g2, g3⟩ := hbad y ((hys y).mpr h1)
            exact absurd (h2 j c p g1 g2) g3
end
abbrev n_law_cans : List Str := ["_law_grid_here", "_law_tree", "_law_signs", "_law_kids_here", "_law_ways_here", "_law_found", "_law_letters_here", "_law_k", "_law_told", "_law_sign", "_law_letter"]
theorem sc_law_cans : FnScope n_law_cans ["_law_grid_here", "_law_tree", "_law_signs"] (defScope (top 27)) := ⟨rfl, rfl, rfl, by decide +kernel, rfl, by decide +kernel, by decide +kernel⟩
def spCan (K : PySem.W.Frag) : Sp := fun vs H Q _ => ∃ (a : Addr) (g : K27.Grid) (t : List Nat), vs = [.ref a, vS t, vS (List.replicate t.length 63)] ∧ GridAt K H a g ∧ Good g ∧ t.length ≤ 300 ∧
  ∀ H' f rs, Same H H' → H' f = some (.lst rs) → LX H' (fun _ => False) encO rs (K27.crun g (K27.kids g.w t) (List.replicate t.length []) (K27.desc 0 t.length)) → Q (.ref f) H'
abbrev n_law_tops : List Str := ["_law_grid_here", "_law_tree", "_law_signs"]
theorem sc_law_tops : FnScope n_law_tops ["_law_grid_here", "_law_tree", "_law_signs"] (defScope (top 28)) := ⟨rfl, rfl, rfl, by decide +kernel, rfl, by decide +kernel, by decide +kernel⟩
def spTps (K : PySem.W.Frag) : Sp := fun vs H Q _ => ∃ (a : Addr) (g : K27.Grid) (t l : List Nat), vs = [.ref a, vS t, vS (List.replicate t.length 63)] ∧ GridAt K H a g ∧ Good g ∧ t.length ≤ 300 ∧ g.Der l t ∧ ∀ H', Same H H' → Q (vS l) H'
section
variable {P : Program} {w : World} {K : PySem.W.Frag} {mg : Str → Option Value} {base : Heap}
theorem c_tops {f : Addr} {fd : FuncData} (F : FnP K "_law_tops" 28 f fd) (hm : mg "_law_tops" = some (.ref f)) (B : Free mg) (C_cans : Cal P w K mg base 3 "_law_cans" (spCan K)) : Cal P w K mg base 4 "_law_tops" (spTps K) := by
  refine cal_of F hm sc_law_tops (fun _ _ _ _ _ _ us hl => match us, hl with | [_, _, _], _ => rfl) (fun vs H Q E h => ?_) (fun cdv A outer s H vs Q E hr h => ?_)
  · obtain ⟨a, g, t, l, rfl, _⟩ := h
    rfl
  · obtain ⟨a, g, t, l, rfl, hg, ok, hz, hd, q⟩ := h
    have nd := sc_law_tops.nd
    have hu := hu_of hr
    refine ⟨_, pss_one (ps_ret (pe_j0 K (pe_ix (ix_listK K) (pe_c C_cans hr (by decide) (pa_cons (pv 0) (pa_cons (pv 1) (pa_cons (pv 2) pa_nil)))) pe_int (fun _ _ => rfl)))), ?_⟩
    have w23 := ok.ok.w23
    have top := K27.cans_top (g := g) (by omega) hd
    refine ⟨⟨_, rfl⟩, _, rfl, _, rfl, _, rfl, a, g, t, rfl, hg, ok, hz, fun H' f rs s' hf lx => ?_⟩
    obtain ⟨qa, h1, _, h2⟩ := lx.at_ 0 l top
    have ll := K27.Der_let_len ok.ok hd
    refine ⟨f, rs, _, .ref qa, rfl, rfl, SqL.of hf, atI_nat (j := 0) h1, qa, l.map fun c => [c], rfl, rfl, .inl (SqL.of ?_), ?_, ?_⟩
    · rw [h2, List.map_map]
      rfl
    · rw [K27.flatten_one]
      omega
    · rw [K27.flatten_one]
      exact q H' s'
theorem c_cans {f : Addr} {fd : FuncData} (F : FnP K "_law_cans" 27 f fd) (hm : mg "_law_cans" = some (.ref f)) (B : Free mg) (C_kids : Cal P w K mg base 1 "_law_kids" spKid) (C_ways : Cal P w K mg base 2 "_law_ways" (spWay K)) (C_letters : Cal P w K mg base 1 "_law_letters" (spLet K)) (C_stands : Cal P w K mg base 1 "_law_stands" (spSta K)) :
    Cal P w K mg base 3 "_law_cans" (spCan K) := by
  refine cal_of F hm sc_law_cans (fun _ _ _ _ _ _ us hl => match us, hl with | [_, _, _], _ => rfl) (fun vs H Q E h => ?_) (fun cdv A outer s H vs Q E hr h => ?_)
  · obtain ⟨a, g, t, rfl, _⟩ := h
    rfl
  · obtain ⟨a, g, t, rfl, hg, ok, hz, q⟩ := h
    have nd := sc_law_cans.nd
    have hu := hu_of hr
    refine ⟨_, pss_cons (ps_set (i := 3) nd rfl (Or.inr rfl) (pe_c C_kids hr (by decide) (pa_cons (pe_ix (ix_tupK K) (pv 0) pe_int (fun _ _ => rfl)) (pa_cons (pv 1) pa_nil))))
      (pss_cons (ps_set (i := 4) nd rfl (Or.inr rfl) (pe_c C_ways hr (by decide) (pa_cons (pv 0) pa_nil)))
      (pss_cons (ps_asg (pe_lc (own := [("_law_sign", 9)]) (g := gName 9) (by rfl) nd (pi_str (pv 1)) (blkOk_by (own := [("_law_sign", 9)]) (N := n_law_cans) (sc := defScope (top 27)) (by decide +kernel)) (fun _ _ _ _ _ => pg_name (i := 9) nd rfl (Or.inl rfl)) (fun _ _ _ _ _ => pts_nil) (fun _ _ _ _ _ => pe_lst pa_nil)) (pg_name (i := 5) nd rfl (Or.inr rfl)))
      (pss_cons (ps_set (i := 6) nd rfl (Or.inl rfl) (pe_c C_letters hr (by decide) (pa_cons (pv 0) pa_nil)))
      (pss_cons (ps_for PassesOwn.never rfl (pi_range3 (by rfl) B.range (pa_cons (pe_op op_sub (pe_callB call_len_str (by rfl) B.len (by decide +kernel) (pa_cons (pv 1) pa_nil)) pe_int) (pa_cons (pe_un un_neg pe_int) (pa_cons (pe_un un_neg pe_int) pa_nil)))) (pg_name (i := 7) nd rfl (Or.inr rfl)) (pss_cons (ps_setLc (i := 8) (own := [("_law_letter", 10)]) (g := gName 10) (by rfl) nd rfl rfl (sw_true rfl rfl rfl (by decide +kernel)) (pi_listK K (pv 6)) (blkOk_by (own := [("_law_letter", 10)]) (N := n_law_cans) (sc := defScope (top 27)) (by decide +kernel)) (fun _ _ _ _ _ => pg_name (i := 10) nd rfl (Or.inl rfl)) (fun _ _ _ _ _ => pts_one (PW.pt (pw_or (pt_cmpR op_eq (pe_ix ix_str (pv 2) (pv 7) (fun _ _ => rfl)) pe_str (nomark _)) (pw_or1 (pt_cmpR op_eq (pe_ix ix_str (pv 2) (pv 7) (fun _ _ => rfl)) (pv 10) (nomark _)))))) (fun _ _ _ _ _ => pv 10))
        (pss_one (ps_asg (pe_lc (own := [("_law_letter", 10)]) (g := gName 10) (by rfl) nd (pi_listK K (pv 8)) (blkOk_by (own := [("_law_letter", 10)]) (N := n_law_cans) (sc := defScope (top 27)) (by decide +kernel)) (fun _ _ _ _ _ => pg_name (i := 10) nd rfl (Or.inl rfl)) (fun _ _ _ _ _ => pts_one (pt_val (pe_c C_stands hr (by decide) (pa_cons (pv 5) (pa_cons (pe_ix (ix_listK K) (pv 3) (pv 7) (fun _ _ => rfl)) (pa_cons (pe_dget hu (pv 4) (pv 10) (fun _ _ => rfl)) pa_nil)))))) (fun _ _ _ _ _ => pv 10)) (pg_sub (pv 5) (pv 7) set_list)))))
      (pss_one (ps_ret (pv 5))))))), ?_⟩
    have w23 := ok.ok.w23
    have few := ok.ok.few
    have fl := ok.flat
    have St : (S t).length = t.length := S_len t
    have sz : (S t).length ≤ sizeLine := Nat.le_of_lt (small24 (by omega))
    have Sg : (S (List.replicate t.length 63)).length = t.length := by rw [S_len, List.length_replicate]
    have szg : (S (List.replicate t.length 63)).length ≤ sizeLine := Nat.le_of_lt (small24 (by omega))
    obtain ⟨r, h1, h2⟩ := hg.ex
    classical
    refine ⟨_, rfl, _, _, _, _, rfl, rfl, h1, rfl, _, rfl, g.w, t, rfl, by omega, by omega, hz, fun H1 kf krs s1 _ hkf klx => ?_⟩
    refine ⟨_, rfl, a, g, rfl, hg.same s1, ok, fun H2 wd wkv s2 hwd => ?_⟩
    have hkf2 := s2 _ _ hkf
    have klx2 := klx.same s2
    refine ⟨_, rfl, S t, rfl, fun D hD => ?_⟩
    refine lc_rl (walk_txt t) t (fun _ v H => ∃ q, v = V.ref q ∧ ¬ q = D ∧ H q = some (.lst (encO []))) rfl (by omega) hD (fun _ _ => trivial) (fun a v H H' bt ⟨q, h1, h2, h3⟩ => ⟨q, h1, h2, bt _ _ h2 h3⟩) (fun n l x H4 H5 Qy hn hl s4 hD4 yl qy => ?_) fun H3 ys s3 hys hlen hP => ?_
    · obtain ⟨rfl, c, hc, rfl⟩ := yl
      refine ⟨rfl, Nat.zero_le _, fun z hz => qy _ _ ⟨z, rfl, ?_, upd_same⟩ (same_upd hz)⟩
      intro e
      rw [e] at hz
      exact hD4 hz
    have lx0 : LX H3 (fun q => q = D) encO ys (List.replicate t.length ([] : List Nat)) := by
      refine LX.ofP (by rw [List.length_replicate]; exact hlen) fun i a y h1 h2 => ?_
      have hi : i < t.length := by
        have := (List.getElem?_eq_some_iff.mp h1).1
        rwa [List.length_replicate] at this
      rw [List.getElem?_replicate, if_pos hi] at h1
      cases h1
      exact hP i t[i] y (List.getElem?_eq_getElem hi) h2
    have s12 := s1.trans s2
    refine ⟨_, rfl, a, g, rfl, hg.same (s12.trans s3), by omega, fun H4 lp s4 hlp0 hlp => ?_⟩
    have lpD : lp ≠ D := fun e => by
      rw [e, hys] at hlp0
      cases hlp0
    have eN : ((((S t).length : Nat) : Int) - 1 - -1).toNat = t.length := by omega
    have kb := kids_kb g.w t
    refine ⟨_, rfl, S t, rfl, sz, _, _, rfl, rfl, 1, rfl, 1, rfl, _, _, _, _, rfl, RgC.neg (by omega) (by omega) (by decide) (by decide), ?_⟩
    rw [eN]
    refine for_it (walk_down (lo := (((S t).length : Nat) : Int) - 1) (n := t.length) (by omega)) (fun i σ H' => ∃ (x7 x8 : Option V) (rs : List V), σ = [some (.ref a), some (vS t), some (vS (List.replicate t.length 63)), some (.ref kf), some (.ref wd), some (.ref D), some (.ref lp), x7, x8, none, none] ∧ Same H2 H' ∧ H' D = some (.lst rs) ∧
      H' lp = some (.lst (encO g.let_)) ∧ LX H' (fun q => q = D) encO rs (K27.crun g (K27.kids g.w t) (List.replicate t.length []) ((K27.desc 0 t.length).take i)))
      ⟨none, none, ys, rfl, s3.trans s4, s4 _ _ hys, hlp, lx0.same s4⟩ (fun _ _ _ _ _ => trivial) (fun i x σ H5 H' hi pv y => ?_) fun σ H' pv => ?_
    · obtain ⟨x7, x8, rs, rfl, sm, hD', hlp', lx⟩ := pv
      obtain ⟨rfl, rfl⟩ := y
      have dk := desc_get hi
      have kt : t.length - 1 - i < t.length := by omega
      generalize t.length - 1 - i = k at *
      have cs := crun_succ (g := g) (Ks := K27.kids g.w t) (C := List.replicate t.length []) dk
      have cl : (K27.crun g (K27.kids g.w t) (List.replicate t.length []) ((K27.desc 0 t.length).take i)).length = t.length := by
        rw [K27.crun_len, List.length_replicate]
      generalize K27.crun g (K27.kids g.w t) (List.replicate t.length []) ((K27.desc 0 t.length).take i) = C at *
      rw [cs]
      have kl : (K27.kids g.w t).length = t.length := kb.len
      obtain ⟨ks, hks⟩ : ∃ ks, (K27.kids g.w t)[k]? = some ks := ⟨(K27.kids g.w t)[k]'(by omega), List.getElem?_eq_getElem (by omega)⟩
      obtain ⟨kw, kn⟩ := kb.kid ks (List.mem_of_getElem? hks)
      have hgd : (K27.kids g.w t).getD k [] = ks := by rw [List.getD_eq_getElem?_getD, hks]; rfl
      have hsg : (S (List.replicate t.length 63)).cps.toList[k]? = some 63 := by
        show (List.replicate t.length 63)[k]? = some 63
        rw [List.getElem?_replicate, if_pos kt]
      have ques : (Str.ofString "?" : Str) = S [63] := by decide +kernel
      refine ⟨_, rfl, lp, rfl, ⟨_, SqL.of hlp'⟩, fun E hE => ?_⟩
      refine lc_fl (walk_list (xs := encO g.let_)) g.let_ (fun c => some (vS [c])) (List.length_map ..).symm (by rw [List.length_map]; omega) hE (fun H' s' => s'.seq (SqL.of hlp')) (fun j c x H6 H7 Qy Qn hj hc s6 _ yl qy _ => ?_) fun H6 s6 h6 => ?_
      · obtain ⟨rfl, hx⟩ := yl
        obtain ⟨c', hc', rfl⟩ := map_take _ _ _ _ hx
        rw [hc'] at hc
        cases hc
        refine ⟨rfl, _, rfl, _, rfl, _, _, 63, rfl, rfl, szg, atI_nat hsg, rfl, _, rfl, ?_⟩
        have e : decide (V.str ⟨#[63]⟩ = V.str (Str.ofString "?")) = true := by
          rw [ques]
          exact decide_eq_true rfl
        rw [e]
        exact iteT (iteT ⟨_, rfl, qy _ _ rfl (Same.refl _)⟩)
      · rw [fm_some] at h6
        have s26 := sm.trans s6
        refine ⟨_, rfl, E, rfl, ⟨_, SqL.of h6⟩, fun G hG => ?_⟩
        refine lc_fl (walk_list (xs := g.let_.map fun c => vS [c])) g.let_ (fun c => if K27.Stands g C ks c then some (vS [c]) else none) (List.length_map ..).symm (by rw [List.length_map]; omega) hG (fun H' s' => s'.seq (SqL.of h6)) (fun j c x H7 H8 Qy Qn hj hc s7 _ yl qy qn => ?_) fun H7 s7 h7 => ?_
        · obtain ⟨rfl, hx⟩ := yl
          obtain ⟨c', hc', rfl⟩ := map_take _ _ _ _ hx
          rw [hc'] at hc
          cases hc
          have s67 := s6.trans s7
          have s27 := s26.trans s7
          obtain ⟨qa, hq1, _, hq2⟩ := (klx2.same s27).at_ k ks hks
          obtain ⟨v, hv⟩ := hwd.dom c (List.mem_of_getElem? hc')
          obtain ⟨b, p1, zs, hb, rfl, hp1, hyl, hym⟩ := hwd.ent _ _ hv
          obtain rfl : c = b := by simpa using kT_inj hb
          have dg := DGet.k (k := kT [c]) (s27 _ _ hwd.hd)
          rw [hv] at dg
          refine ⟨rfl, _, rfl, _, rfl, _, rfl, kf, krs, _, .ref qa, rfl, rfl, SqL.of (s27 _ _ hkf2), atI_nat hq1, _, rfl, _, rfl, wd, .ref p1, rfl, dg, ?_⟩
          refine ⟨D, qa, p1, g, rs, C, ks, c, zs, rfl, s67 _ _ hD', (lx.same s67).imp (fun _ x => x.elim), hq2, s27 _ _ hp1, hym, ok, kw, fun q hq => by rw [cl]; exact kn q hq, hyl, fun H9 b s9 hb => ⟨b, rfl, ?_⟩⟩
          by_cases hs : K27.Stands g C ks c
          · rw [hb.mpr hs]
            exact iteT ⟨_, rfl, qy _ _ (if_pos hs) s9⟩
          · have : b = false := by
              cases b with
              | false => rfl
              | true => exact absurd (hb.mp rfl) hs
            rw [this]
            exact iteF (qn _ (if_neg hs) s9)
        · rw [fm_if (fun c => K27.Stands g C ks c)] at h7
          have s67 := s6.trans s7
          have GD : G ≠ D := fun e => by
            rw [e, s6 _ _ hD'] at hG
            cases hG
          refine ⟨_, rfl, _, rfl, D, _, _, k, rfl, rfl, s67 _ _ hD', ?_, ?_⟩
          · unfold ixN
            have : rs.length = t.length := by rw [lx.len, cl]
            rw [if_pos (by omega), if_pos (by omega), Int.toNat_natCast]
          · have hD2 : H2 D = none := by
              cases hh : H2 D with
              | none => rfl
              | some o => rw [hD] at hh; cases hh
            refine ⟨_, _, rs.set k (.ref G), rfl, same_f (s26.trans s7) hD2, upd_same, by rw [upd_ne lpD]; exact s67 _ _ hlp', ?_⟩
            refine LX.upd (LX.set (lx.same s67) ?_ GD) rfl
            rw [h7]
            show some (HO.lst (encO _)) = some (.lst (encO (K27.canAt g (K27.kids g.w t) C k)))
            unfold K27.canAt
            rw [hgd]
    · obtain ⟨x7, x8, rs, rfl, sm, hD', hlp', lx⟩ := pv
      have e : (K27.desc 0 t.length).take t.length = K27.desc 0 t.length := List.take_of_length_le (by rw [desc_len]; exact Nat.le_refl _)
      rw [e] at lx
      exact ⟨_, rfl, q _ D rs (s12.trans sm) hD' (lx.imp fun _ x => x.elim)⟩
end
end K27W
/-! K27: the law's shapes. -/
namespace K27W
open PySem PySem.Spec PyProof.Rows L2 K27R
def Nc (ls : List (List Nat)) : Prop := ls ≠ [] ∧ ∀ l ∈ ls, 44 ∉ l
theorem nc_inj {a b : List (List Nat)} (ha : Nc a) (hb : Nc b) (h : TL.joinL [44] a = TL.joinL [44] b) : a = b := by
  have h1 := SX.spl_join (c := 44) (sep := []) ha.1 ha.2
  have h2 := SX.spl_join (c := 44) (sep := []) hb.1 hb.2
  rw [h] at h1
  exact h1.symm.trans h2
def NV (g : K27.Grid) (nv : List (Key × V)) : Prop := ∀ ls v, Nc ls → valV nv (kT (TL.joinL [44] ls)) = some v → v = vS (g.F ls)
theorem NV.put {g : K27.Grid} {nv : List (Key × V)} (h : NV g nv) {ls : List (List Nat)} (hl : Nc ls) : NV g (putK nv (kT (TL.joinL [44] ls)) (vS (g.F ls))) := by
  intro ms v hm e
  rw [valV_put] at e
  by_cases hk : kT (TL.joinL [44] ms) = kT (TL.joinL [44] ls)
  · rw [if_pos hk] at e
    cases e
    rw [nc_inj hm hl (kT_inj hk)]
  · rw [if_neg hk] at e
    exact h ms v hm e
theorem let_low {g : K27.Grid} (ok : Good g) {c : Nat} (h : c ∈ g.let_) : 97 ≤ c ∧ c ≤ 122 := by
  obtain ⟨r, hr, hc⟩ := List.mem_flatten.mp ((K27.mem_sdG c _).mp h)
  exact ok.low r hr c hc
theorem der_low {g : K27.Grid} (ok : Good g) {l s : List Nat} (h : g.Der l s) : ∀ c ∈ l, 97 ≤ c ∧ c ≤ 122 := fun c hc => let_low ok (h.sub c hc)
theorem tu_nc {g : K27.Grid} (ok : Good g) {kv : K27.KV} (I : K27.Inv g kv) {ls : List (List Nat)} (h : K27.Tu g kv ls) : Nc ls := by
  refine ⟨fun e => ?_, fun l hl hc => ?_⟩
  · have h1 := h.1
    have h2 := ok.ok.w23
    rw [e] at h1
    simp at h1
    omega
  · obtain ⟨s, es⟩ := h.2 l hl
    have := der_low ok (I.sound l s es) 44 hc
    omega
theorem LX.kind {α : Type} {H : Hp} {ex : Addr → Prop} {enc : α → List V} {rs : List V} {M : List α} {D : Addr} {o : HO} (h : LX H ex enc rs M) (hD : ∀ xs, H D ≠ some (.lst xs)) : LX (L2.upd H D o) ex enc rs M :=
  ⟨h.len, fun i m e => let ⟨q, h1, h2, h3⟩ := h.at_ i m e; ⟨q, h1, h2, by
    rw [upd_ne]
    · exact h3
    · intro z
      rw [z] at h3
      exact hD _ h3⟩⟩
structure LapL (Hb H : Hp) (fd nd p : Addr) (g : K27.Grid) (kv : K27.KV) (nv : List (Key × V)) (rs : List V) (T : List (List (List Nat))) : Prop where
  sm : Same Hb H
  fd0 : Hb fd = none
  nd0 : Hb nd = none
  ne : fd ≠ nd
  hf : H fd = some (.dK (kvm kv))
  hn : H nd = some (.dK nv)
  nv_ : NV g nv
  hp : H p = some (.lst rs)
  rf : LX H (fun q => q = p) encT rs T
section
variable {Hb H H' : Hp} {fd nd p : Addr} {g : K27.Grid} {kv : K27.KV} {nv : List (Key × V)} {rs : List V} {T : List (List (List Nat))}
theorem LapL.same (h : LapL Hb H fd nd p g kv nv rs T) (s : Same H H') : LapL Hb H' fd nd p g kv nv rs T :=
  ⟨h.sm.trans s, h.fd0, h.nd0, h.ne, s _ _ h.hf, s _ _ h.hn, h.nv_, s _ _ h.hp, h.rf.same s⟩
theorem LapL.putN (h : LapL Hb H fd nd p g kv nv rs T) {ls : List (List Nat)} (hl : Nc ls) :
    LapL Hb (L2.upd H nd (.dK (putK nv (kT (TL.joinL [44] ls)) (vS (g.F ls))))) fd nd p g kv (putK nv (kT (TL.joinL [44] ls)) (vS (g.F ls))) rs T := by
  have n2 : p ≠ nd := fun e => by
    have := h.hp
    rw [e, h.hn] at this
    cases this
  exact ⟨same_f h.sm h.nd0, h.fd0, h.nd0, h.ne, by rw [upd_ne h.ne]; exact h.hf, upd_same, h.nv_.put hl, by rw [upd_ne n2]; exact h.hp, h.rf.kind fun xs e => by rw [h.hn] at e; cases e⟩
theorem LapL.putF (h : LapL Hb H fd nd p g kv nv rs T) (kv' : K27.KV) : LapL Hb (L2.upd H fd (.dK (kvm kv'))) fd nd p g kv' nv rs T := by
  have n2 : p ≠ fd := fun e => by
    have := h.hp
    rw [e, h.hf] at this
    cases this
  exact ⟨same_f h.sm h.fd0, h.fd0, h.nd0, h.ne, upd_same, by rw [upd_ne (Ne.symm h.ne)]; exact h.hn, h.nv_, by rw [upd_ne n2]; exact h.hp, h.rf.kind fun xs e => by rw [h.hf] at e; cases e⟩
end
abbrev n_law_shapes : List Str := ["_law_grid_here", "_law_lap", "_law_ways_here", "_law_whole", "_law_found", "_law_known", "_law_changed", "_law_row_here", "_law_name", "_law_group", "_law_tree", "_law_one"]
theorem sc_law_shapes : FnScope n_law_shapes ["_law_grid_here"] (defScope (top 31)) := ⟨rfl, rfl, rfl, by decide +kernel, rfl, by decide +kernel, by decide +kernel⟩
def spShs (K : PySem.W.Frag) : Sp := fun vs H Q _ => ∃ (a : Addr) (g : K27.Grid), vs = [.ref a] ∧ GridAt K H a g ∧ Good g ∧ ∀ H' kn kv, Same H H' → H' kn = some (.dK (kvm kv)) → K27.Inv g kv → K27.mu g kv = 0 → Q (.ref kn) H'
section
variable {P : Program} {w : World} {K : PySem.W.Frag} {mg : Str → Option Value} {base : Heap}
theorem c_shapes {f : Addr} {fd : FuncData} (F : FnP K "_law_shapes" 31 f fd) (hm : mg "_law_shapes" = some (.ref f)) (B : Free mg) (C_ways : Cal P w K mg base 2 "_law_ways" (spWay K)) (C_letters : Cal P w K mg base 1 "_law_letters" (spLet K))
    (C_pairs : Cal P w K mg base 1 "_law_pairs" (spPar K)) (C_met : Cal P w K mg base 1 "_law_met" (spMet K)) : Cal P w K mg base 3 "_law_shapes" (spShs K) := by
  refine cal_of F hm sc_law_shapes (fun _ _ _ _ _ _ us hl => match us, hl with | [_], _ => rfl) (fun vs H Q E h => ?_) (fun cdv A outer s H vs Q E hr h => ?_)
  · obtain ⟨a, g, rfl, _⟩ := h
    rfl
  · obtain ⟨a, g, rfl, hg, ok, q⟩ := h
    obtain ⟨r, h1, h2⟩ := hg.ex
    have nd := sc_law_shapes.nd
    have hu := hu_of hr
    refine ⟨_, pss_cons (ps_par (i := 2) (j := 3) (by rfl) nd rfl rfl (by decide) rfl rfl (pa_cons (pe_c C_ways hr (by decide) (pa_cons (pv 0) pa_nil)) (pa_cons (pe_j0 K (pe_c C_letters hr (by decide) (pa_cons (pv 0) pa_nil))) pa_nil)) (by rfl))
      (pss_cons (ps_asg (pe_tup (pa_cons (pe_disp (pps_cons (pv 3) pe_str pps_nil) (by rfl) (by rfl) (fun z => by cases z) (by decide)) (pa_cons pe_dnewK pa_nil))) (pg_tupK K (by rfl) (pgs_cons (pg_name (i := 4) nd rfl (Or.inr rfl)) (pgs_cons (pg_name (i := 5) nd rfl (Or.inl rfl)) pgs_nil))))
      (pss_cons (ps_for PassesOwn.never rfl (pi_range1 (by rfl) B.range (pa_cons pe_int pa_nil)) (pg_name (i := 1) nd rfl (Or.inl rfl)) (pss_cons (ps_set (i := 6) nd rfl (Or.inl rfl) pe_bl)
        (pss_cons (ps_for PassesOwn.never rfl (pi_listK K (pe_c C_pairs hr (by decide) (pa_cons (pe_ss B rfl (pe_callTy (call_listD rfl) (by rfl) B.list (by decide +kernel) (pa_cons (pv 4) pa_nil))) (pa_cons (pe_ix (ix_tupK K) (pv 0) pe_int (fun _ _ => rfl)) pa_nil)))) (pg_name (i := 7) nd rfl (Or.inl rfl)) (pss_cons (ps_set (i := 8) nd rfl (Or.inl rfl) (pe_join pe_str (pv 7)))
          (C8.pss_cut (ps_if (pt_cmp (pc_dnotin hu (pv 8) (pv 5))) (pss_one (ps_dput hu (pv 5) (pv 8) (pe_c C_met hr (by decide) (pa_cons (pv 2) (pa_cons (pv 7) pa_nil))) rfl)) pss_nil)
          (pss_cons (ps_set (i := 9) nd rfl (Or.inl rfl) (pe_dget hu (pv 5) (pv 8) (fun _ _ => rfl)))
          (pss_cons (ps_set (i := 10) nd rfl (Or.inl rfl) (pe_op op_add_str pe_str (pe_j0 K (pe_lc (own := [("_law_one", 11)]) (g := gName 11) (by rfl) nd (pi_listK K (pv 7)) (blkOk_by (own := [("_law_one", 11)]) (N := n_law_shapes) (sc := defScope (top 31)) (by decide +kernel)) (fun _ _ _ _ _ => pg_name (i := 11) nd rfl (Or.inl rfl)) (fun _ _ _ _ _ => pts_nil) (fun _ _ _ _ _ => pe_dget hu (pv 4) (pv 11) (fun _ _ => rfl))))))
          (pss_one (ps_if (PW.pt (pw_or (pt_cmp (pc_dnotin hu (pv 9) (pv 4))) (pw_or1 (pt_cmpR (op_ltPK K hu) (pe_tup (pa_cons (pe_callB call_len_str (by rfl) B.len (by decide +kernel) (pa_cons (pv 10) pa_nil)) (pa_cons (pv 10) pa_nil))) (pe_tup (pa_cons (pe_callB call_len_str (by rfl) B.len (by decide +kernel) (pa_cons (pe_dget hu (pv 4) (pv 9) (fun _ _ => rfl)) pa_nil)) (pa_cons (pe_dget hu (pv 4) (pv 9) (fun _ _ => rfl)) pa_nil))) (nomark _))))) (pss_cons (ps_dput hu (pv 4) (pv 9) (pv 10) rfl)
            (pss_one (ps_set (i := 6) nd rfl (Or.inl rfl) pe_bl))) pss_nil)))))))
        (pss_one (ps_if (pt_not (pt_val (pv 6))) (pss_one ps_break) pss_nil)))))
      (pss_one (ps_ret (pv 4))))), ?_⟩
    have w23 := ok.ok.w23
    have few := ok.ok.few
    have fl := ok.flat
    have two : 2 ≤ sizeLine := by decide
    refine ⟨_, rfl, a, g, rfl, hg, ok, fun H1 wd wkv s1 hwd => ⟨⟨_, rfl⟩, _, rfl, a, g, rfl, hg.same s1, by omega, fun Hb lp s2 _ hlp => ⟨lp, g.let_.map fun c => [c], rfl, rfl, .inl (SqL.of (by rw [hlp, List.map_map]; rfl)), by rw [K27.flatten_one]; omega, ?_⟩⟩⟩
    rw [K27.flatten_one]
    refine ⟨_, _, rfl, ?_⟩
    have sb := s1.trans s2
    have hwd2 := hwd.same s2
    intro fd hfd
    refine ⟨_, rfl, upd_same, [(kT g.let_, vS [46])], rfl, Nat.le_of_ble_eq_true rfl, ?_⟩
    intro nd hnd
    refine ⟨two, fun tq htq => ?_⟩
    refine ⟨tq, _, rfl, SqT.of upd_same, rfl, _, _, rfl, _, _, rfl, rfl, ?_⟩
    have hf1 : L2.upd (L2.upd Hb fd (.dK [])) fd (.dK (mergeK [] [(kT g.let_, vS [46])])) fd = some (.dK (kvm [(g.let_, [46])])) := upd_same
    have nfd : nd ≠ fd := fun e => by
      rw [e, upd_same] at hnd
      cases hnd
    have sF := same_f (o := .dK (mergeK [] [(kT g.let_, vS [46])])) (same_upd (o := .dK []) hfd) hfd
    have sHb : Same Hb (L2.upd (L2.upd (L2.upd (L2.upd Hb fd (.dK [])) fd (.dK (mergeK [] [(kT g.let_, vS [46])]))) nd (.dK [])) tq (.tup [.ref fd, .ref nd])) := (sF.trans (same_upd hnd)).trans (same_upd htq)
    have nd0 : Hb nd = none := none_of sF hnd
    have nfq : fd ≠ tq := fun e => by
      rw [← e, upd_ne (Ne.symm nfd), upd_same] at htq
      cases htq
    have nnq : nd ≠ tq := fun e => by
      rw [← e, upd_same] at htq
      cases htq
    refine ⟨40, rfl, by decide, by decide, ?_⟩
    refine for_it (walk_range (lo := 0) (n := 40)) (fun i σ H => ∃ (kv : K27.KV) (nv : List (Key × V)) (x1 x6 x7 x8 x9 x10 : Option V), σ = [some (.ref a), x1, some (.ref wd), some (vS g.let_), some (.ref fd), some (.ref nd), x6, x7, x8, x9, x10, none] ∧ Same Hb H ∧
      H fd = some (.dK (kvm kv)) ∧ H nd = some (.dK nv) ∧ NV g nv ∧ K27.Inv g kv ∧ K27.mu g kv + i ≤ 9 ∧ nv.length ≤ 729 * i)
      ⟨[(g.let_, [46])], [], none, none, none, none, none, none, rfl, sHb, by rw [upd_ne nfq, upd_ne (Ne.symm nfd)]; exact hf1, by rw [upd_ne nnq]; exact upd_same, fun ls v _ e => absurd e (by simp [valV_nil]), K27.inv0 ok.ok, K27.mu_le ok.ok _, Nat.zero_le _⟩
      (fun _ _ _ _ _ => trivial) (fun i x σ H3 H3' hi pv y => ?_) fun σ H3 pv => ?_
    · obtain ⟨kv, nv, x1, x6, x7, x8, x9, x10, rfl, sm, hk, hn, hnv, I, hmu, hnl⟩ := pv
      obtain ⟨rfl, rfl⟩ := y
      have kl := I.len ok.ok
      have hkeys : ((kvm kv).map fun kv => kV kv.1) = ((kv.map (·.1)).map S).map V.str := by
        unfold kvm
        rw [List.map_map, List.map_map, List.map_map]
        rfl
      refine ⟨_, rfl, fd, kvm kv, rfl, .inl hk, fun l hl => ?_⟩
      refine ss_go (zs := (kv.map (·.1)).map S) (.inr ⟨l, rfl, SqL.of (by rw [upd_same, hkeys])⟩) (by rw [List.length_map, List.length_map]; omega) fun sp H4a s4a hsp hHs => ?_
      rw [sortT_S, ← map_vS] at hHs
      have kl2 : (K27.sdL (kv.map (·.1))).length ≤ 9 := by
        have h1 : (K27.sdL (kv.map (·.1))).length ≤ (kv.map (·.1)).length := K27.sdG_len _
        rw [List.length_map] at h1
        omega
      have s34a : Same H3' H4a := (same_upd hl).trans s4a
      refine ⟨_, rfl, _, _, _, _, rfl, rfl, same_seqT ((sb.trans sm).trans s34a) h1, rfl, sp, g.w, K27.sdL (kv.map (·.1)), rfl, SqL.of hHs, kl2, by omega, fun H4 p rs s4 hp0 hp rf => ⟨p, rfl, ⟨_, SqL.of hp⟩, ?_⟩⟩
      have A : K27.All g kv (tuples (K27.sdL (kv.map (·.1))) g.w) := all_of fun l => by
        have : l ∈ K27.sdL (kv.map (·.1)) ↔ l ∈ kv.map (·.1) := K27.mem_sdG l _
        rw [this]
        exact keys_iff kv l
      have T729 := tuples_729 (K27.sdL (kv.map (·.1))) kl2 (n := g.w) (by omega)
      have s34 : Same H3' H4 := s34a.trans s4
      generalize hT : tuples (K27.sdL (kv.map (·.1))) g.w = T at *
      refine for_it (walk_list (xs := rs)) (fun j σ H => ∃ (nv' : List (Key × V)) (x7 x8 x9 x10 : Option V), σ = [some (.ref a), some (.int (0 + (i : Nat))), some (.ref wd), some (vS g.let_), some (.ref fd), some (.ref nd), some (.bl (lapi g kv T j).2), x7, x8, x9, x10, none] ∧ LapL Hb H fd nd p g (lapi g kv T j).1 nv' rs T ∧ nv'.length ≤ nv.length + j)
        ⟨nv, x7, x8, x9, x10, rfl, ⟨sm.trans s34, hfd, nd0, Ne.symm nfd, s34 _ _ hk, s34 _ _ hn, hnv, hp, rf⟩, Nat.le_refl _⟩ (fun j σ H _ pv => let ⟨_, _, _, _, _, _, L, _⟩ := pv; SqL.of L.hp) (fun j x σ H5 H6 hj pv y => ?_) fun σ H5 pv => ?_
      · obtain ⟨nv1, y7, y8, y9, y10, rfl, L, tl⟩ := pv
        obtain ⟨rfl, hx⟩ := y
        obtain ⟨ls, hls⟩ : ∃ ls, T[j]? = some ls := ⟨T[j]'(by rw [← rf.len]; exact hj), by simp [← rf.len, hj]⟩
        obtain ⟨qa, hq1, _, hq2⟩ := L.rf.at_ j ls hls
        rw [hx] at hq1
        cases hq1
        have hTl : j < T.length := by rw [← rf.len]; exact hj
        obtain ⟨Ii, Ti⟩ := lapi_ok ok.ok I A j
        have tu := Ti ls (List.mem_of_getElem? hls)
        have nc := tu_nc ok Ii tu
        have comma : (Str.ofString "," : Str) = S [44] := by decide +kernel
        have lsl : ls.flatten.length ≤ 3 * 4 := by
          have h1 := flat_most (n := 4) (l := ls) fun l hl => by
            obtain ⟨s, es⟩ := tu.2 l hl
            exact K27.Der_let_len ok.ok (Ii.sound l s es)
          have := tu.1
          have : ls.length * 4 ≤ 3 * 4 := Nat.mul_le_mul_right _ (by omega)
          omega
        refine ⟨⟨_, rfl⟩, _, rfl, _, qa, ls.map S, rfl, rfl, .inl (SqL.of (by rw [hq2, ← map_vS])), ?_, ?_⟩
        · have e1 : ((ls.map S).map (·.length)).sum = ls.flatten.length := by
            rw [List.map_map, List.length_flatten]
            rfl
          have e2 : (Str.ofString "," : Str).length = 1 := by decide +kernel
          rw [e1, e2, List.length_map, tu.1]
          omega
        rw [comma, SX.join_S]
        refine ⟨fun σ' H' => ∃ nv2, σ' = [some (.ref a), some (.int (0 + (i : Nat))), some (.ref wd), some (vS g.let_), some (.ref fd), some (.ref nd), some (.bl (lapi g kv T j).2), some (.ref qa), some (vS (TL.joinL [44] ls)), y9, y10, none] ∧ LapL Hb H' fd nd p g (lapi g kv T j).1 nv2 rs T ∧ nv2.length ≤ nv.length + j + 1 ∧ H' qa = some (.lst (ls.map vS)) ∧ valV nv2 (kT (TL.joinL [44] ls)) = some (vS (g.F ls)), ?_, ?_⟩
        · refine ⟨_, rfl, _, rfl, nd, _, rfl, DGet.k (k := kT (TL.joinL [44] ls)) L.hn, _, rfl, ?_⟩
          cases e : valV nv1 (kT (TL.joinL [44] ls)) with
          | some v =>
            refine iteF ⟨nv1, rfl, L, by omega, hq2, ?_⟩
            rw [e, L.nv_ ls v nc e]
          | none =>
            refine iteT ⟨_, rfl, _, rfl, wd, qa, g, wkv, ls, rfl, hwd2.same L.sm, SqL.of hq2, tu.1, ok, fun H7 s7 => ?_⟩
            have L7 := L.same s7
            refine ⟨_, rfl, _, rfl, nd, _, rfl, DPut.k (k := kT (TL.joinL [44] ls)) L7.hn (small24 (by omega)), ?_⟩
            refine ⟨_, rfl, L7.putN nc, ?_, ?_, by rw [valV_put, if_pos rfl]⟩
            · have := length_putK nv1 (kT (TL.joinL [44] ls)) (vS (g.F ls))
              omega
            · rw [upd_ne]
              · exact s7 _ _ hq2
              · intro e
                rw [e, L.hn] at hq2
                cases hq2
        · rintro σ' H7 ⟨nv2, rfl, L7, tl2, hq7, hv⟩
          have sl := sh_len ok.ok Ii tu
          have dgN : DGet H7 nd (kV (kT (TL.joinL [44] ls))) (some (vS (g.F ls))) := by
            have := DGet.k (k := kT (TL.joinL [44] ls)) L7.hn
            rwa [hv] at this
          refine ⟨_, rfl, _, rfl, nd, _, rfl, dgN, ?_⟩
          refine ⟨⟨_, rfl⟩, _, rfl, qa, rfl, ⟨_, SqL.of hq7⟩, fun D hD => ?_⟩
          refine lc_fl (walk_list (xs := ls.map vS)) ls (fun l => some (vS ((K27.aget (lapi g kv T j).1 l).getD []))) (by rw [List.length_map]) (by rw [List.length_map, tu.1]; omega) hD (fun H' s' => s'.seq (SqL.of hq7)) (fun n l x H8 H9 Qy Qn hn hl s8 _ yl qy _ => ?_) fun H8 s8 h8 => ?_
          · obtain ⟨rfl, hx⟩ := yl
            obtain ⟨l', hl', rfl⟩ := map_take _ _ _ _ hx
            rw [hl'] at hl
            cases hl
            obtain ⟨s, es⟩ := tu.2 l (List.mem_of_getElem? hl')
            have dg := DGet.k (k := kT l) (s8 _ _ L7.hf)
            rw [valV_kvm, es] at dg
            refine ⟨rfl, _, rfl, _, rfl, fd, vS s, rfl, dg, qy _ _ ?_ (Same.refl _)⟩
            rw [es]
            rfl
          · rw [fm_some] at h8
            have plus : (Str.ofString "+" : Str) = S [43] := by decide +kernel
            have shl : (ls.map fun l => (K27.aget (lapi g kv T j).1 l).getD []).flatten.length + 1 ≤ 29524 := by
              have e : (K27.shOf (lapi g kv T j).1 ls).length = (ls.map fun l => (K27.aget (lapi g kv T j).1 l).getD []).flatten.length + 1 := List.length_cons
              omega
            refine ⟨D, ls.map fun l => (K27.aget (lapi g kv T j).1 l).getD [], rfl, rfl, .inl (SqL.of (by rw [h8, List.map_map]; rfl)), by omega, _, _, rfl, rfl, ?_, ?_⟩
            · rw [plus, S_len, S_len]
              exact Nat.le_of_lt (small24 (by show 1 + _ ≤ _; omega))
            · have esh : (Str.ofString "+" : Str) ++ S (ls.map fun l => (K27.aget (lapi g kv T j).1 l).getD []).flatten = S (K27.shOf (lapi g kv T j).1 ls) := by
                rw [plus, S_cat]
                rfl
              rw [esh]
              have L8 := L7.same s8
              have dgK : DGet H8 fd (kV (kT (g.F ls))) ((K27.aget (lapi g kv T j).1 (g.F ls)).map vS) := by
                have := DGet.k (k := kT (g.F ls)) L8.hf
                rwa [valV_kvm] at this
              have kl9 : (kvm (lapi g kv T j).1).length ≤ 9 := by
                unfold kvm
                rw [List.length_map]
                exact Ii.len ok.ok
              have put : ∀ H9, LapL Hb H9 fd nd p g (lapi g kv T j).1 nv2 rs T → K27.step g (lapi g kv T j) ls = (K27.aput (lapi g kv T j).1 (g.F ls) (K27.shOf (lapi g kv T j).1 ls), true) →
                ∃ (nv' : List (Key × V)) (x7 x8 x9 x10 : Option V), ([some (.ref a), some (.int (0 + (i : Nat))), some (.ref wd), some (vS g.let_), some (.ref fd), some (.ref nd), some (.bl true), some (.ref qa), some (vS (TL.joinL [44] ls)), some (vS (g.F ls)), some (vS (K27.shOf (lapi g kv T j).1 ls)), none] : L2.St) = [some (.ref a), some (.int (0 + (i : Nat))), some (.ref wd), some (vS g.let_), some (.ref fd), some (.ref nd), some (.bl (lapi g kv T (j + 1)).2), x7, x8, x9, x10, none] ∧
                  LapL Hb (L2.upd H9 fd (.dK (putK (kvm (lapi g kv T j).1) (kT (g.F ls)) (vS (K27.shOf (lapi g kv T j).1 ls))))) fd nd p g (lapi g kv T (j + 1)).1 nv' rs T ∧ nv'.length ≤ nv.length + (j + 1) := fun H9 L9 est => by
                refine ⟨nv2, some (.ref qa), some (vS (TL.joinL [44] ls)), some (vS (g.F ls)), some (vS (K27.shOf (lapi g kv T j).1 ls)), ?_, ?_, by omega⟩
                · rw [lapi_succ hls, est]
                · rw [lapi_succ hls, est, putK_kvm Ii.nd]
                  exact L9.putF _
              rcases K27.step_cases (g := g) (lapi g kv T j) ls with ⟨est, t, et, hnl⟩ | ⟨est, hc⟩
              · rw [et] at dgK
                have ht := Ii.short ok.ok et
                have l1 : (S (K27.shOf (lapi g kv T j).1 ls)).length = (K27.shOf (lapi g kv T j).1 ls).length := S_len _
                have l2 : (S t).length = t.length := S_len t
                refine ⟨_, rfl, _, rfl, fd, _, rfl, dgK, _, rfl, iteF ?_⟩
                refine ⟨_, rfl, _, rfl, Nat.le_of_lt (small24 (by omega)), _, rfl, two, fun p1 hp1 => ?_⟩
                have dgK1 := dgK
                have hf9 := (same_upd (o := .tup [.int ((S (K27.shOf (lapi g kv T j).1 ls)).length : Nat), .str (S (K27.shOf (lapi g kv T j).1 ls))]) hp1) _ _ L8.hf
                have dg9 := DGet.k (k := kT (g.F ls)) hf9
                rw [valV_kvm, et] at dg9
                refine ⟨_, rfl, _, rfl, fd, _, rfl, dg9, _, rfl, Nat.le_of_lt (small24 (by omega)), _, rfl, _, rfl, fd, _, rfl, dg9, two, fun p2 hp2 => ?_⟩
                have ne : p1 ≠ p2 := fun e => by
                  rw [← e, upd_same] at hp2
                  cases hp2
                refine ⟨p1, p2, _, _, _, _, rfl, rfl, SqT.of (by rw [upd_ne ne]; exact upd_same), SqT.of upd_same, _, rfl, ?_⟩
                rw [l1, l2, pairLt_less, decide_eq_false hnl]
                refine iteF ⟨nv2, some (.ref qa), some (vS (TL.joinL [44] ls)), some (vS (g.F ls)), some (vS (K27.shOf (lapi g kv T j).1 ls)), ?_, ?_, by omega⟩
                · rw [lapi_succ hls, est]
                  rfl
                · rw [lapi_succ hls, est]
                  exact (L8.same (same_upd hp1)).same (same_upd hp2)
              · rcases hc with hc | ⟨t, et, hl⟩
                · rw [hc] at dgK
                  refine ⟨_, rfl, _, rfl, fd, _, rfl, dgK, _, rfl, iteT (iteT ?_)⟩
                  exact ⟨_, rfl, _, rfl, _, rfl, fd, _, rfl, DPut.k (k := kT (g.F ls)) L8.hf (small24 (by omega)), put _ L8 est⟩
                · rw [et] at dgK
                  have ht := Ii.short ok.ok et
                  have l1 : (S (K27.shOf (lapi g kv T j).1 ls)).length = (K27.shOf (lapi g kv T j).1 ls).length := S_len _
                  have l2 : (S t).length = t.length := S_len t
                  refine ⟨_, rfl, _, rfl, fd, _, rfl, dgK, _, rfl, iteF ?_⟩
                  refine ⟨_, rfl, _, rfl, Nat.le_of_lt (small24 (by omega)), _, rfl, two, fun p1 hp1 => ?_⟩
                  have hf9 := (same_upd (o := .tup [.int ((S (K27.shOf (lapi g kv T j).1 ls)).length : Nat), .str (S (K27.shOf (lapi g kv T j).1 ls))]) hp1) _ _ L8.hf
                  have dg9 := DGet.k (k := kT (g.F ls)) hf9
                  rw [valV_kvm, et] at dg9
                  refine ⟨_, rfl, _, rfl, fd, _, rfl, dg9, _, rfl, Nat.le_of_lt (small24 (by omega)), _, rfl, _, rfl, fd, _, rfl, dg9, two, fun p2 hp2 => ?_⟩
                  have ne : p1 ≠ p2 := fun e => by
                    rw [← e, upd_same] at hp2
                    cases hp2
                  refine ⟨p1, p2, _, _, _, _, rfl, rfl, SqT.of (by rw [upd_ne ne]; exact upd_same), SqT.of upd_same, _, rfl, ?_⟩
                  rw [l1, l2, pairLt_less, decide_eq_true hl]
                  have L9 := (L8.same (same_upd hp1)).same (same_upd (o := .tup [.int ((t.length : Nat) : Int), .str (S t)]) hp2)
                  rw [l1] at L9
                  exact iteT ⟨_, rfl, _, rfl, _, rfl, fd, _, rfl, DPut.k (k := kT (g.F ls)) L9.hf (small24 (by omega)), put _ L9 est⟩
      · obtain ⟨nv1, y7, y8, y9, y10, rfl, L, tl⟩ := pv
        have eT : lapi g kv T rs.length = K27.lap g (kv, false) T := by
          unfold lapi
          rw [rf.len, List.take_length]
        rw [eT] at L ⊢
        obtain ⟨m1, m2, m3⟩ := K27.lap_main ok.ok I A
        have rl := rf.len
        refine ⟨_, rfl, _, rfl, ?_⟩
        cases h : (K27.lap g (kv, false) T).2 with
        | true =>
          have h4 := m2 h
          refine iteF ⟨(K27.lap g (kv, false) T).1, nv1, _, _, y7, y8, y9, y10, rfl, L.sm, L.hf, L.hn, L.nv_, m1, by omega, ?_⟩
          rw [Nat.mul_succ]
          omega
        | false =>
          obtain ⟨e, h0⟩ := m3 h
          refine iteT ⟨_, rfl, q _ fd (K27.lap g (kv, false) T).1 (sb.trans L.sm) L.hf m1 ?_⟩
          rw [e]
          exact h0
    · obtain ⟨kv, nv, x1, x6, x7, x8, x9, x10, rfl, sm, hk, hn, hnv, I, hmu, hnl⟩ := pv
      omega
end
end K27W
/-! K27: are_closed. -/
namespace K27W
open PySem PySem.Spec PyProof.Rows L2 K27R
theorem inV_vS (l : List Nat) (L : List (List Nat)) : inV (vS l) (L.map vS) = decide (l ∈ L) := by
  unfold inV
  rw [List.any_map, Bool.eq_iff_iff, List.any_eq_true, decide_eq_true_eq]
  have e : ∀ d : List Nat, ((fun y => eqV y (vS l)) ∘ vS) d = decide (d = l) := fun d => by
    show (S d == S l) = _
    rw [SX.S_beq_eq]
  constructor
  · rintro ⟨d, hd, h⟩
    rw [e] at h
    rw [← of_decide_eq_true h]
    exact hd
  · intro h
    exact ⟨l, h, by rw [e]; simp⟩
theorem flat_vS (L : List (List Nat)) : (L.map vS).all flatV = true := by
  rw [List.all_map, List.all_eq_true]
  exact fun _ _ => rfl
theorem times_S (n : Nat) : timesS (S [63]) n = S (List.replicate n 63) := by
  unfold timesS
  have e : (S [63]).cps.toList = [63] := rfl
  rw [e]
  have : (List.replicate n [63]).flatten = List.replicate n 63 := by
    induction n with
    | zero => rfl
    | succ n ih => rw [List.replicate_succ, List.flatten_cons, ih, List.replicate_succ]; rfl
  rw [this]
theorem res_len {g : K27.Grid} (ok : Good g) {R : List (List Nat × List Nat)} (h : IsRes g R) : R.length ≤ 9 := by
  have h1 := K27.sub_len (l := R.map (·.1)) (m := K27.U g) (K27.asc_nodup K27.linL h.asc) fun l hl => by
    obtain ⟨p, hp, rfl⟩ := List.mem_map.mp hl
    exact ((h.iff_ p.1 p.2).mp hp).1.inU
  rw [List.length_map] at h1
  exact Nat.le_trans h1 (K27.U_len ok.ok)
theorem der_of {g : K27.Grid} {R : List (List Nat × List Nat)} (res : IsRes g R) : ∀ ls : List (List Nat), (∀ l ∈ ls, l ∈ R.map (·.1)) → ∃ ps : List (List Nat × List Nat), ps.map (·.1) = ls ∧ ∀ p ∈ ps, g.Der p.1 p.2
  | [], _ => ⟨[], rfl, fun p hp => nomatch hp⟩
  | m :: ls, tm => by
    obtain ⟨ps, e, hd⟩ := der_of res ls fun x hx => tm x (List.mem_cons_of_mem _ hx)
    obtain ⟨p, hp, ep⟩ := List.mem_map.mp (tm m List.mem_cons_self)
    refine ⟨p :: ps, by rw [List.map_cons, e, ep], fun x hx => ?_⟩
    rcases List.mem_cons.mp hx with rfl | hx
    · exact ((res.iff_ x.1 x.2).mp hp).1
    · exact hd x hx
abbrev n_law_are_closed : List Str := ["_law_grid_here", "_law_pairs_here", "_law_groups", "_law_ways_here", "_law_group", "_law_tree", "_law_pair", "_law_row_here"]
theorem sc_law_are_closed : FnScope n_law_are_closed ["_law_grid_here", "_law_pairs_here"] (defScope (top 32)) := ⟨rfl, rfl, rfl, by decide +kernel, rfl, by decide +kernel, by decide +kernel⟩
def spClo (K : PySem.W.Frag) : Sp := fun vs H Q _ => ∃ (a p : Addr) (g : K27.Grid) (R : List (List Nat × List Nat)), vs = [.ref a, .ref p] ∧ GridAt K H a g ∧ Good g ∧ PairsAt H p R ∧ IsRes g R ∧ (∀ l s, (l, s) ∈ R → s.length ≤ 100000) ∧ ∀ H', Same H H' → Q (.bl true) H'
section
variable {P : Program} {w : World} {K : PySem.W.Frag} {mg : Str → Option Value} {base : Heap}
theorem c_closed {f : Addr} {fd : FuncData} (F : FnP K "_law_are_closed" 32 f fd) (hm : mg "_law_are_closed" = some (.ref f)) (B : Free mg) (C_ways : Cal P w K mg base 2 "_law_ways" (spWay K)) (C_tops : Cal P w K mg base 4 "_law_tops" (spTps K))
    (C_pairs : Cal P w K mg base 1 "_law_pairs" (spPar K)) (C_met : Cal P w K mg base 1 "_law_met" (spMet K)) : Cal P w K mg base 5 "_law_are_closed" (spClo K) := by
  refine cal_of F hm sc_law_are_closed (fun _ _ _ _ _ _ us hl => match us, hl with | [_, _], _ => rfl) (fun vs H Q E h => ?_) (fun cdv A outer s H vs Q E hr h => ?_)
  · obtain ⟨a, p, g, R, rfl, _⟩ := h
    rfl
  · obtain ⟨a, p, g, R, rfl, hg, ok, hp, res, hsl, q⟩ := h
    obtain ⟨r, h1, h2⟩ := hg.ex
    obtain ⟨rs, hp1, hp2, hp3⟩ := hp.ex
    have nd := sc_law_are_closed.nd
    have hu := hu_of hr
    refine ⟨_, pss_cons (ps_asg (pe_tup (pa_cons (pe_lc (own := [("_law_pair", 6)]) (g := gName 6) (by rfl) nd (pi_tupK K (pv 1)) (blkOk_by (own := [("_law_pair", 6)]) (N := n_law_are_closed) (sc := defScope (top 32)) (by decide +kernel)) (fun _ _ _ _ _ => pg_name (i := 6) nd rfl (Or.inl rfl)) (fun _ _ _ _ _ => pts_nil) (fun _ _ _ _ _ => pe_ix (ix_tupK K) (pv 6) pe_int (fun _ _ => rfl))) (pa_cons (pe_c C_ways hr (by decide) (pa_cons (pv 0) pa_nil)) pa_nil))) (pg_tupK K (by rfl) (pgs_cons (pg_name (i := 2) nd rfl (Or.inr rfl)) (pgs_cons (pg_name (i := 3) nd rfl (Or.inr rfl)) pgs_nil))))
      (pss_cons (ps_if (pt_cmpR op_ne (pe_callB call_lenT (by rfl) B.len (by decide +kernel) (pa_cons (pe_callTy ((call_setS rfl).or (call_setL rfl)) (by rfl) B.set (by decide +kernel) (pa_cons (pv 2) pa_nil)) pa_nil)) (pe_callB (len_seqK K) (by rfl) B.len (by decide +kernel) (pa_cons (pv 2) pa_nil)) (nomark _)) (pss_one (ps_ret pe_bl)) pss_nil)
      (pss_cons (ps_for PassesOwn.never rfl (pi_tupK K (pv 1)) (pg_tupK K (by rfl) (pgs_cons (pg_name (i := 4) nd rfl (Or.inl rfl)) (pgs_cons (pg_name (i := 5) nd rfl (Or.inl rfl)) pgs_nil))) (pss_one (ps_if (PW.pt (pw_and (pt_cmpR op_lt (pe_callB call_len_str (by rfl) B.len (by decide +kernel) (pa_cons (pv 5) pa_nil)) pe_int (nomark _)) (pw_and1 (pt_cmpR op_ne (pe_c C_tops hr (by decide) (pa_cons (pv 0) (pa_cons (pv 5) (pa_cons (pe_op op_times pe_str (pe_callB call_len_str (by rfl) B.len (by decide +kernel) (pa_cons (pv 5) pa_nil))) pa_nil)))) (pv 4) (nomark _))))) (pss_one (ps_ret pe_bl)) pss_nil)))
      (pss_one (ps_ret (pe_cmpR (op_eqDK K hr.units) (pe_lc (own := [("_law_row_here", 7)]) (g := gName 7) (by rfl) nd (pi_listK K (pe_c C_pairs hr (by decide) (pa_cons (pv 2) (pa_cons (pe_ix (ix_tupK K) (pv 0) pe_int (fun _ _ => rfl)) pa_nil)))) (blkOk_by (own := [("_law_row_here", 7)]) (N := n_law_are_closed) (sc := defScope (top 32)) (by decide +kernel)) (fun _ _ _ _ _ => pg_name (i := 7) nd rfl (Or.inl rfl)) (fun _ _ _ _ _ => pts_one (pt_cmpR (op_notInK K) (pe_c C_met hr (by decide) (pa_cons (pv 3) (pa_cons (pv 7) pa_nil))) (pv 2) (by with_unfolding_all rfl))) (fun _ _ _ _ _ => pv 7)) (pe_lst pa_nil) (nomark _)))))), ?_⟩
    have w23 := ok.ok.w23
    have few := ok.ok.few
    have rl := res_len ok res
    have two : 2 ≤ sizeLine := by decide
    refine ⟨_, rfl, p, rfl, ⟨_, SqT.of hp1⟩, fun D hD => ?_⟩
    refine lc_fl (walk_tup (xs := rs)) R (fun ls => some (vS ls.1)) hp2.symm (by omega) hD (fun H' s' => same_seqT s' (SqT.of hp1)) (fun i ls x H2 H3 Qy Qn hi hls s2 _ yl qy _ => ?_) fun H1 s1 h1D => ?_
    · obtain ⟨rfl, hx⟩ := yl
      obtain ⟨l, s0⟩ := ls
      obtain ⟨qa, g1, g2⟩ := hp3 i l s0 hls
      rw [hx] at g1
      cases g1
      exact ⟨rfl, _, rfl, qa, _, _, vS l, rfl, rfl, SqT.of (s2 _ _ g2), rfl, qy _ _ rfl (Same.refl _)⟩
    rw [fm_some] at h1D
    have egr : (R.map fun ls => vS ls.1) = (R.map (·.1)).map vS := by
      rw [List.map_map]
      rfl
    rw [egr] at h1D
    refine ⟨_, rfl, a, g, rfl, hg.same s1, ok, fun H2 wd wkv s2 hwd => ⟨two, fun tq htq => ?_⟩⟩
    refine ⟨tq, _, rfl, SqT.of upd_same, rfl, _, _, rfl, _, _, rfl, rfl, ?_⟩
    have s12 := s1.trans (s2.trans (same_upd (o := .tup [.ref D, .ref wd]) htq))
    have hD2 := (s2.trans (same_upd (o := .tup [.ref D, .ref wd]) htq)) _ _ h1D
    have hwd2 := hwd.same (same_upd (o := .tup [.ref D, .ref wd]) htq)
    have nd : (R.map (·.1)).Nodup := K27.asc_nodup K27.linL res.asc
    -- len(set(groups)) == len(groups)
    refine ⟨_, rfl, .inr ⟨D, (R.map (·.1)).map S, rfl, SqL.of (by rw [hD2, map_vS]), ?_, fun sp zs hsp zn zm => ?_⟩⟩
    · have sb : scanBound = 4096 := rfl
      rw [List.length_map, List.length_map]
      omega
    have s3 := same_upd (o := SetT w sp zs) hsp
    refine ⟨sp, zs, rfl, upd_same, _, rfl, D, _, rfl, .inl (SqL.of (s3 _ _ hD2)), ?_⟩
    have ndS : ((R.map (·.1)).map S).Nodup := by
      rw [List.nodup_iff_pairwise_ne, List.pairwise_map]
      exact List.Pairwise.imp (fun h e => h (S_inj e)) nd
    have el : zs.length = ((R.map (·.1)).map vS).length := by
      have a1 := K27.sub_len zn fun x hx => (zm x).mp hx
      have a2 := K27.sub_len ndS fun x hx => (zm x).mpr hx
      rw [List.length_map] at a1 a2
      rw [List.length_map]
      omega
    rw [el]
    refine ⟨rfl, _, rfl, ?_⟩
    rw [decide_eq_true rfl]
    refine iteF ?_
    refine ⟨_, rfl, p, rfl, ⟨_, SqT.of ((s12.trans s3) _ _ hp1)⟩, ?_⟩
    refine for_it (walk_tup (xs := rs)) (fun i σ H' => ∃ x4 x5 : Option V, σ = [some (.ref a), some (.ref p), some (.ref D), some (.ref wd), x4, x5, none, none] ∧ Same (L2.upd (L2.upd H2 tq (.tup [.ref D, .ref wd])) sp (SetT w sp zs)) H')
      ⟨none, none, rfl, Same.refl _⟩ (fun i σ H' _ pv => let ⟨_, _, _, s⟩ := pv; same_seqT s (SqT.of ((s12.trans s3) _ _ hp1))) (fun i x σ H3 H3' hi pv y => ?_) fun σ H3 pv => ?_
    · obtain ⟨x4, x5, rfl, sm⟩ := pv
      obtain ⟨rfl, hx⟩ := y
      obtain ⟨⟨l, s0⟩, hls⟩ : ∃ ls, R[i]? = some ls := ⟨R[i]'(by omega), List.getElem?_eq_getElem (by omega)⟩
      obtain ⟨qa, g1, g2⟩ := hp3 i l s0 hls
      rw [hx] at g1
      cases g1
      have sH := (s12.trans s3).trans sm
      have hmn := (res.iff_ l s0).mp (List.mem_of_getElem? hls)
      have hs := hsl l s0 (List.mem_of_getElem? hls)
      have ls0 : (S s0).length = s0.length := S_len s0
      have sz : (S s0).length ≤ sizeLine := Nat.le_of_lt (small24 (by omega))
      refine ⟨qa, _, rfl, SqT.of (sH _ _ g2), rfl, _, _, rfl, _, _, rfl, rfl, ?_⟩
      refine ⟨_, rfl, _, rfl, sz, _, _, rfl, rfl, _, rfl, ?_⟩
      by_cases h200 : s0.length < 200
      · have e : decide ((((S s0).length : Nat) : Int) < 200) = true := decide_eq_true (by omega)
        rw [e]
        refine iteT ?_
        have ques : (Str.ofString "?" : Str) = S [63] := by decide +kernel
        refine ⟨_, rfl, _, rfl, _, rfl, _, rfl, sz, S [63], s0.length, by rw [ques], by rw [ls0], Nat.le_of_lt (small24 (by omega)), rfl, ?_⟩
        rw [times_S]
        refine ⟨a, g, s0, l, rfl, hg.same sH, ok, by omega, hmn.1, fun H4 s4 => ⟨_, rfl, rfl, _, rfl, ?_⟩⟩
        rw [decide_eq_true rfl]
        exact iteF ⟨_, _, rfl, sm.trans s4⟩
      · have e : decide ((((S s0).length : Nat) : Int) < 200) = false := decide_eq_false (by omega)
        rw [e]
        exact iteF (iteF ⟨_, _, rfl, sm⟩)
    · obtain ⟨x4, x5, rfl, sm⟩ := pv
      have sH := (s12.trans s3).trans sm
      have hwd3 := (hwd2.same s3).same sm
      have hD3 := sm _ _ (s3 _ _ hD2)
      have kl : (R.map (·.1)).length ≤ 9 := by
        rw [List.length_map]
        exact rl
      refine ⟨_, rfl, _, rfl, _, _, _, _, rfl, rfl, same_seqT sH h1, rfl, D, g.w, R.map (·.1), rfl, SqL.of hD3, kl, by omega, fun H4 pp prs s4 hp0 hpp rf => ⟨pp, rfl, ⟨_, SqL.of hpp⟩, fun E hE => ?_⟩⟩
      have T729 := tuples_729 (R.map (·.1)) kl (n := g.w) (by omega)
      refine lc_fl (walk_list (xs := prs)) (tuples (R.map (·.1)) g.w) (fun _ => none) rf.len.symm (by rw [rf.len]; omega) hE (fun H' s' => s'.seq (SqL.of hpp)) (fun j ls x H5 H6 Qy Qn hj hls s5 _ yl qy qn => ?_) fun H5 s5 h5 => ?_
      · obtain ⟨rfl, hx⟩ := yl
        obtain ⟨qa, g1, _, g2⟩ := rf.at_ j ls hls
        rw [hx] at g1
        cases g1
        obtain ⟨tl, tm⟩ := (mem_tuples (R.map (·.1)) g.w ls).mp (List.mem_of_getElem? hls)
        have s45 := s4.trans s5
        refine ⟨rfl, _, rfl, _, rfl, wd, qa, g, wkv, ls, rfl, hwd3.same s45, SqL.of (s5 _ _ g2), tl, ok, fun H7 s7 => ?_⟩
        refine ⟨_, rfl, D, (R.map (·.1)).map vS, rfl, .inl (SqL.of (s7 _ _ (s45 _ _ hD3))), rfl, flat_vS _, _, rfl, ?_⟩
        have e : (if true = true then !inV (V.str (S (g.F ls))) ((R.map (·.1)).map vS) else inV (V.str (S (g.F ls))) ((R.map (·.1)).map vS)) = false := by
          rw [if_pos rfl]
          have e1 : inV (V.str (S (g.F ls))) ((R.map (·.1)).map vS) = decide (g.F ls ∈ R.map (·.1)) := inV_vS _ _
          rw [e1, Bool.not_eq_false', decide_eq_true_eq]
          -- the tuple's lots are derived, so their answer is
          have hps := der_of res ls tm
          obtain ⟨ps, e, hd⟩ := hps
          have hder := K27.Grid.Der.node (g := g) ps (by rw [← tl, ← e, List.length_map]) hd
          rw [e] at hder
          obtain ⟨m, hm⟩ := K27.Mn.ex hder
          exact List.mem_map.mpr ⟨(g.F ls, m), (res.iff_ _ _).mpr hm, rfl⟩
        rw [e]
        exact iteF (qn _ rfl s7)
      · refine ⟨Nat.zero_le _, fun e0 he0 => ?_⟩
        have e5 : (tuples (R.map (·.1)) g.w).filterMap (fun _ => (none : Option V)) = [] := by
          induction tuples (R.map (·.1)) g.w with
          | nil => rfl
          | cons a l ih => rw [List.filterMap_cons, ih]
        rw [e5] at h5
        exact eq_nil (K := K) (xs := []) (SqL.of ((same_upd he0) _ _ h5)) (SqL.of upd_same) .nil (q _ (sH.trans (s4.trans (s5.trans (same_upd he0)))))
end
end K27W
/-! K27: feed, draw, pick. -/
namespace K27W
open PySem PySem.Spec PyProof.Rows L2 K27R
abbrev kc : Key := Sum.inr (Str.ofString "cells")
abbrev ka : Key := Sum.inr (Str.ofString "at")
abbrev kl : Key := Sum.inr (Str.ofString "left")
abbrev kd : Key := Sum.inr (Str.ofString "drawn")
theorem ca : kc ≠ ka := by decide +kernel
theorem cl_ : kc ≠ kl := by decide +kernel
theorem cd : kc ≠ kd := by decide +kernel
structure FeedKv (kvs : List (Key × V)) (cl : Addr) : Prop where
  len : kvs.length ≤ 4
  c : valV kvs kc = some (.ref cl)
  a : ∃ i : Int, valV kvs ka = some (.int i)
  l : ∃ i : Int, valV kvs kl = some (.int i)
  d : ∃ i : Int, valV kvs kd = some (.int i)
theorem put_int {kvs : List (Key × V)} {k j : Key} {i : Int} (h : ∃ n : Int, valV kvs j = some (.int n)) : ∃ n : Int, valV (putK kvs k (.int i)) j = some (.int n) := by
  rw [valV_put]
  by_cases e : j = k
  · rw [if_pos e]
    exact ⟨i, rfl⟩
  · rw [if_neg e]
    exact h
theorem FeedKv.put {kvs : List (Key × V)} {cl : Addr} {k : Key} {i : Int} (h : FeedKv kvs cl) (hk : kc ≠ k) (ho : ∃ n : Int, valV kvs k = some (.int n)) : FeedKv (putK kvs k (.int i)) cl := by
  obtain ⟨n, hn⟩ := ho
  exact ⟨by rw [putK_len_old hn]; exact h.len, by rw [valV_put, if_neg hk]; exact h.c, put_int h.a, put_int h.l, put_int h.d⟩
structure FeedAt (K : PySem.W.Frag) (H : Hp) (fd cl : Addr) (cs : List Int) : Prop where
  ex : ∃ (kvs : List (Key × V)), H fd = some (.dK kvs) ∧ FeedKv kvs cl ∧ SqL K H cl (cs.map V.int) ∧ cs.length ≤ 1000
theorem But.trans {D : Addr} {H H1 H2 : Hp} (a : But D H H1) (b : But D H1 H2) : But D H H2 := fun c o n e => b c o n (a c o n e)
theorem But.of {D : Addr} {H H1 : Hp} (s : Same H H1) : But D H H1 := fun c o _ e => s c o e
theorem But.upd {D : Addr} {H : Hp} {o : HO} : But D H (L2.upd H D o) := fun b x n e => by rwa [upd_ne n]
theorem But.seq {K : PySem.W.Frag} {D : Addr} {H H' : Hp} {a : Addr} {xs : List V} {kvs : List (Key × V)} (e : But D H H') (hD : H D = some (.dK kvs)) (h : SqL K H a xs) : SqL K H' a xs := by
  rcases h with (h | ⟨o, h⟩) | h
  · exact .inl (.inl (e a _ (fun z => by rw [z, hD] at h; cases h) h))
  · exact .inl (.inr ⟨o, e a _ (fun z => by rw [z, hD] at h; cases h) h⟩)
  · exact .inr h
theorem But.seqT {K : PySem.W.Frag} {D : Addr} {H H' : Hp} {a : Addr} {xs : List V} {kvs : List (Key × V)} (e : But D H H') (hD : H D = some (.dK kvs)) (h : SqT K H a xs) : SqT K H' a xs := by
  rcases h with (h | ⟨o, h⟩) | h
  · exact .inl (.inl (e a _ (fun z => by rw [z, hD] at h; cases h) h))
  · exact .inl (.inr ⟨o, e a _ (fun z => by rw [z, hD] at h; cases h) h⟩)
  · exact .inr h
theorem FeedAt.same {K : PySem.W.Frag} {H H' : Hp} {fd cl : Addr} {cs : List Int} (h : FeedAt K H fd cl cs) (s : Same H H') : FeedAt K H' fd cl cs :=
  let ⟨kvs, h1, h2, h3, h4⟩ := h.ex
  ⟨kvs, s _ _ h1, h2, s.seq h3, h4⟩
theorem FeedAt.put {K : PySem.W.Frag} {H : Hp} {fd cl : Addr} {kvs kvs' : List (Key × V)} {cs : List Int} (h1 : H fd = some (.dK kvs)) (h2 : FeedKv kvs' cl) (h3 : SqL K H cl (cs.map V.int)) (h4 : cs.length ≤ 1000) : FeedAt K (L2.upd H fd (.dK kvs')) fd cl cs :=
  ⟨kvs', upd_same, h2, But.upd.seq h1 h3, h4⟩
theorem dget_k {H : Hp} {fd : Addr} {kvs : List (Key × V)} (k : Key) {v : V} (h : H fd = some (.dK kvs)) (e : valV kvs k = some v) : DGet H fd (kV k) (some v) := by
  have := DGet.k (k := k) h
  rwa [e] at this
abbrev n_law_draw : List Str := ["_law_feed_here", "_law_most", "_law_cell", "_law_mixed", "_law_digit", "_law_cells", "_law_at"]
theorem sc_law_draw : FnScope n_law_draw ["_law_feed_here", "_law_most"] (defScope (top 15)) := ⟨rfl, rfl, rfl, by decide +kernel, rfl, by decide +kernel, by decide +kernel⟩
def spDraw (K : PySem.W.Frag) : Sp := fun vs H Q _ => ∃ (fd cl : Addr) (cs : List Int) (m : Nat), vs = [.ref fd, .int (m : Int)] ∧ FeedAt K H fd cl cs ∧ 1 ≤ m ∧ m ≤ 1000 ∧ ∀ H' (r : Nat), But fd H H' → FeedAt K H' fd cl cs → r < m → Q (.int (r : Int)) H'
abbrev n_law_pick : List Str := ["_law_feed_here", "_law_some"]
theorem sc_law_pick : FnScope n_law_pick ["_law_feed_here", "_law_some"] (defScope (top 16)) := ⟨rfl, rfl, rfl, by decide +kernel, rfl, by decide +kernel, by decide +kernel⟩
def spPick (K : PySem.W.Frag) : Sp := fun vs H Q _ => ∃ (fd cl s : Addr) (cs : List Int) (xs : List V), vs = [.ref fd, .ref s] ∧ FeedAt K H fd cl cs ∧ SqL K H s xs ∧ 1 ≤ xs.length ∧ xs.length ≤ 1000 ∧ ∀ H' x, But fd H H' → FeedAt K H' fd cl cs → x ∈ xs → Q x H'
abbrev n_law_feed : List Str := ["_law_script", "_law_one"]
theorem sc_law_feed : FnScope n_law_feed ["_law_script"] (defScope (top 14)) := ⟨rfl, rfl, rfl, by decide +kernel, rfl, by decide +kernel, by decide +kernel⟩
def spFeed (K : PySem.W.Frag) : Sp := fun vs H Q _ => ∃ (s : Addr) (ns : List Int), vs = [.ref s] ∧ SqL K H s (ns.map V.int) ∧ ns.length ≤ 1000 ∧ ∀ H' fd cl cs, Same H H' → FeedAt K H' fd cl cs → Q (.ref fd) H'
section
variable {P : Program} {w : World} {K : PySem.W.Frag} {mg : Str → Option Value} {base : Heap}
theorem c_feed {f : Addr} {fd : FuncData} (F : FnP K "_law_feed" 14 f fd) (hm : mg "_law_feed" = some (.ref f)) (B : Free mg) : Cal P w K mg base 1 "_law_feed" (spFeed K) := by
  refine cal_of F hm sc_law_feed (fun _ _ _ _ _ _ us hl => match us, hl with | [_], _ => rfl) (fun vs H Q E h => ?_) (fun cdv A outer s H vs Q E hr h => ?_)
  · obtain ⟨s, ns, rfl, _⟩ := h
    rfl
  · obtain ⟨s0, ns, rfl, hs, hn, q⟩ := h
    have nd := sc_law_feed.nd
    have hu := hu_of hr
    refine ⟨_, pss_one (ps_ret (pe_disp (pps_cons pe_str (pe_lc (own := [("_law_one", 1)]) (g := gName 1) (by rfl) nd (pi_listK K (pe_slice (sl_listK K) (pv 0) po_none (po_some pe_int))) (blkOk_by (own := [("_law_one", 1)]) (N := n_law_feed) (sc := defScope (top 14)) (by decide +kernel)) (fun _ _ _ _ _ => pg_name (i := 1) nd rfl (Or.inl rfl)) (fun _ _ _ _ _ => pts_nil) (fun _ _ _ _ _ => pe_callTy call_int1 (by rfl) B.int (by decide +kernel) (pa_cons (pv 1) pa_nil))) (pps_cons pe_str pe_int (pps_cons pe_str pe_int (pps_cons pe_str pe_int pps_nil)))) (by rfl) (by rfl) (fun z => by cases z) (by decide))), ?_⟩
    intro p hp
    have sp := same_upd (o := .dK []) hp
    refine ⟨_, rfl, 63, rfl, s0, _, rfl, sp.seq hs, fun z hz => ?_⟩
    have ecut : cutV (ns.map V.int) none (some 63) = (ns.take 63).map V.int := by
      unfold cutV
      have e1 : HT.sIx (ns.map V.int).length (ns.map V.int).length (some 63) = min 63 (ns.map V.int).length := HT.sIx_nat _ _ 63
      rw [e1, HT.sIx_none, List.drop_zero, List.map_take, List.length_map, Nat.sub_zero]
      by_cases h : ns.length ≤ 63
      · rw [List.take_of_length_le (by rw [List.length_map]; omega), List.take_of_length_le (by rw [List.length_map]; omega)]
      · rw [Nat.min_eq_left (by omega)]
    rw [ecut]
    have lz := same_upd (o := .lst ((ns.take 63).map V.int)) hz
    refine ⟨z, rfl, ⟨_, SqL.of upd_same⟩, fun D hD => ?_⟩
    have tl : (ns.take 63).length ≤ 1000 := by
      rw [List.length_take]
      omega
    refine lc_fl (walk_list (xs := (ns.take 63).map V.int)) (ns.take 63) (fun n => some (.int n)) (List.length_map ..).symm (by rw [List.length_map]; omega) hD (fun H' s' => s'.seq (SqL.of upd_same)) (fun i n x H2 H3 Qy Qn hi hn s2 _ yl qy _ => ?_) fun H2 s2 h2 => ?_
    · obtain ⟨rfl, hx⟩ := yl
      obtain ⟨n', hn', rfl⟩ := map_take _ _ _ _ hx
      rw [hn'] at hn
      cases hn
      exact ⟨rfl, _, rfl, .inl ⟨_, rfl, qy _ _ rfl (Same.refl _)⟩⟩
    rw [fm_some] at h2
    have s12 := lz.trans s2
    refine ⟨s12 _ _ upd_same, [(kc, .ref D), (ka, .int 0), (kl, .int 0), (kd, .int 0)], rfl, Nat.le_of_ble_eq_true rfl, ?_⟩
    have pD : D ≠ p := fun e => by
      rw [e, s12 _ _ upd_same] at h2
      cases h2
    refine q _ p D (ns.take 63) (same_f (sp.trans s12) hp) ⟨_, upd_same, ?_, SqL.of (by rw [upd_ne pD]; exact h2), tl⟩
    have n1 : ka ≠ kc := by decide +kernel
    have n2 : kl ≠ kc := by decide +kernel
    have n3 : kl ≠ ka := by decide +kernel
    have n4 : kd ≠ kc := by decide +kernel
    have n5 : kd ≠ ka := by decide +kernel
    have n6 : kd ≠ kl := by decide +kernel
    have e0 : ∀ k v, putK ([] : List (Key × V)) k v = [(k, v)] := fun k v => rfl
    have em : mergeK [] [(kc, V.ref D), (ka, .int 0), (kl, .int 0), (kd, .int 0)] = putK (putK (putK (putK [] kc (.ref D)) ka (.int 0)) kl (.int 0)) kd (.int 0) := rfl
    rw [em]
    refine ⟨?_, ?_, ⟨0, ?_⟩, ⟨0, ?_⟩, ⟨0, ?_⟩⟩
    · have h1 := length_putK (putK (putK (putK ([] : List (Key × V)) kc (.ref D)) ka (.int 0)) kl (.int 0)) kd (.int 0)
      have h2 := length_putK (putK (putK ([] : List (Key × V)) kc (.ref D)) ka (.int 0)) kl (.int 0)
      have h3 := length_putK (putK ([] : List (Key × V)) kc (.ref D)) ka (.int 0)
      have h4 : (putK ([] : List (Key × V)) kc (.ref D)).length = 1 := rfl
      omega
    · rw [valV_put, if_neg (Ne.symm n4), valV_put, if_neg (Ne.symm n2), valV_put, if_neg (Ne.symm n1), valV_put, if_pos rfl]
    · rw [valV_put, if_neg (Ne.symm n5), valV_put, if_neg (Ne.symm n3), valV_put, if_pos rfl]
    · rw [valV_put, if_neg (Ne.symm n6), valV_put, if_pos rfl]
    · rw [valV_put, if_pos rfl]
theorem c_pick {f : Addr} {fd : FuncData} (F : FnP K "_law_pick" 16 f fd) (hm : mg "_law_pick" = some (.ref f)) (B : Free mg) (C_draw : Cal P w K mg base 1 "_law_draw" (spDraw K)) : Cal P w K mg base 2 "_law_pick" (spPick K) := by
  refine cal_of F hm sc_law_pick (fun _ _ _ _ _ _ us hl => match us, hl with | [_, _], _ => rfl) (fun vs H Q E h => ?_) (fun cdv A outer s H vs Q E hr h => ?_)
  · obtain ⟨fd, cl, s, cs, xs, rfl, _⟩ := h
    rfl
  · obtain ⟨fd, cl, s0, cs, xs, rfl, hf, hs, h1, h2, q⟩ := h
    have nd := sc_law_pick.nd
    have hu := hu_of hr
    refine ⟨_, pss_one (ps_ret (pe_ix (ix_listK K) (pv 1) (pe_c C_draw hr (by decide) (pa_cons (pv 0) (pa_cons (pe_callB (len_seqK K) (by rfl) B.len (by decide +kernel) (pa_cons (pv 1) pa_nil)) pa_nil))) (fun _ _ => rfl))), ?_⟩
    obtain ⟨kvs, g1, g2, g3, g4⟩ := hf.ex
    refine ⟨_, rfl, _, rfl, _, rfl, s0, xs, rfl, .inl hs, fd, cl, cs, xs.length, rfl, hf, h1, h2, fun H' r bt hf' hr => ?_⟩
    exact ⟨s0, xs, (r : Int), xs[r], rfl, rfl, bt.seq g1 hs, atI_nat (List.getElem?_eq_getElem hr), q H' _ bt hf' (List.getElem_mem hr)⟩
theorem c_draw {f : Addr} {fd : FuncData} (F : FnP K "_law_draw" 15 f fd) (hm : mg "_law_draw" = some (.ref f)) (B : Free mg) : Cal P w K mg base 1 "_law_draw" (spDraw K) := by
  refine cal_of F hm sc_law_draw (fun _ _ _ _ _ _ us hl => match us, hl with | [_, _], _ => rfl) (fun vs H Q E h => ?_) (fun cdv A outer s H vs Q E hr h => ?_)
  · obtain ⟨fd, cl, cs, m, rfl, _⟩ := h
    rfl
  · obtain ⟨fd, cl, cs, m, rfl, hf, m1, m2, q⟩ := h
    have nd := sc_law_draw.nd
    have hu := hu_of hr
    refine ⟨_, pss_cons (ps_dput hu (pv 0) pe_str (pe_op op_add (pe_dget hu (pv 0) pe_str (fun _ _ => rfl)) pe_int) rfl)
      (pss_cons (ps_if (pt_cmpR op_gt (pe_dget hu (pv 0) pe_str (fun _ _ => rfl)) pe_int (nomark _)) (pss_cons (ps_set (i := 4) nd rfl (Or.inl rfl) (pe_op op_mod (pe_callTy call_int1 (by rfl) B.int (by decide +kernel) (pa_cons (pe_dget hu (pv 0) pe_str (fun _ _ => rfl)) pa_nil)) (pv 1)))
        (pss_cons (ps_dput hu (pv 0) pe_str (pe_op op_fdiv (pe_dget hu (pv 0) pe_str (fun _ _ => rfl)) (pv 1)) rfl)
        (pss_one (ps_ret (pv 4))))) pss_nil)
      (pss_cons (ps_par (i := 5) (j := 6) (by rfl) nd rfl rfl (by decide) rfl rfl (pa_cons (pe_dget hu (pv 0) pe_str (fun _ _ => rfl)) (pa_cons (pe_dget hu (pv 0) pe_str (fun _ _ => rfl)) pa_nil)) (by rfl))
      (pss_cons (ps_dput hu (pv 0) pe_str (pe_op op_add (pv 6) pe_int) rfl)
      (C8.pss_cut (ps_set (i := 2) nd rfl (Or.inl rfl) (pe_ifExp (pt_cmpR (op_neDK K hr.units) (pv 5) (pe_lst pa_nil) (nomark _)) (pe_ix (ix_listK K) (pv 5) (pe_op op_mod (pe_callTy call_int1 (by rfl) B.int (by decide +kernel) (pa_cons (pv 6) pa_nil)) (pe_callB (len_seqK K) (by rfl) B.len (by decide +kernel) (pa_cons (pv 5) pa_nil))) (fun _ _ => rfl)) pe_int))
      (C8.pss_cut (ps_if (PW.pt (pw_and (pt_cmpR op_ge (pv 2) (pe_op op_pow pe_int pe_int) (nomark _)) (pw_and1 (pt_cmpR op_lt (pv 6) (pe_callB (len_seqK K) (by rfl) B.len (by decide +kernel) (pa_cons (pv 5) pa_nil)) (nomark _))))) (pss_cons (ps_dput hu (pv 0) pe_str (pe_op op_fdiv (pv 2) (pv 1)) rfl)
        (pss_one (ps_ret (pe_op op_mod (pe_callTy call_int1 (by rfl) B.int (by decide +kernel) (pa_cons (pv 2) pa_nil)) (pv 1))))) pss_nil)
      (pss_cons (ps_set (i := 3) nd rfl (Or.inl rfl) (pe_op op_mod (pe_callTy call_int1 (by rfl) B.int (by decide +kernel) (pa_cons (pe_op op_add (pe_op op_add (pe_op op_mod (pe_callTy call_int1 (by rfl) B.int (by decide +kernel) (pa_cons (pv 2) pa_nil)) pe_int) (pe_op op_mul pe_int (pe_dget hu (pv 0) pe_str (fun _ _ => rfl)))) pe_int) pa_nil)) pe_int))
      (pss_cons (ps_set (i := 3) nd rfl (Or.inl rfl) (pe_op op_mod (pe_callTy call_int1 (by rfl) B.int (by decide +kernel) (pa_cons (pe_op op_add (pe_op op_add (pe_op op_mul (pv 3) (pv 3)) (pe_op op_mul pe_int (pe_dget hu (pv 0) pe_str (fun _ _ => rfl)))) pe_int) pa_nil)) pe_int))
      (pss_one (ps_ret (pe_op op_mod (pe_callTy call_int1 (by rfl) B.int (by decide +kernel) (pa_cons (pe_op op_fdiv (pe_op op_mod (pe_callTy call_int1 (by rfl) B.int (by decide +kernel) (pa_cons (pe_op op_add (pe_op op_mul (pv 3) (pv 3)) (pe_op op_mul pe_int (pv 3))) pa_nil)) pe_int) pe_int) pa_nil)) (pv 1))))))))))), ?_⟩
    obtain ⟨kvs, g1, g2, g3, g4⟩ := hf.ex
    have mpos : (0 : Int) < (m : Int) := by omega
    have four : ∀ {kvs : List (Key × V)}, kvs.length ≤ 4 → kvs.length < sizeLine := fun h => small24 (by omega)
    -- what is given: an int below m
    have give : ∀ (H' : Hp) (x : Int), But fd H H' → FeedAt K H' fd cl cs → Q (.int (x % (m : Int))) H' := fun H' x bt hf' => by
      have h0 := Int.emod_nonneg x (show (m : Int) ≠ 0 by omega)
      have h1 := Int.emod_lt_of_pos x mpos
      have := q H' (x % (m : Int)).toNat bt hf' (by omega)
      rwa [Int.toNat_of_nonneg h0] at this
    obtain ⟨d0, hd0⟩ := g2.d
    refine ⟨_, rfl, fd, _, rfl, dget_k kd g1 hd0, _, _, rfl, rfl, _, rfl, fd, _, rfl, DPut.k (k := kd) g1 (four g2.len), ?_⟩
    have f1 := g2.put (k := kd) (i := d0 + 1) cd ⟨d0, hd0⟩
    have b1 : But fd H (L2.upd H fd (.dK (putK kvs kd (.int (d0 + 1))))) := But.upd
    have h1 : L2.upd H fd (.dK (putK kvs kd (.int (d0 + 1)))) fd = some (.dK (putK kvs kd (.int (d0 + 1)))) := upd_same
    have q1 := b1.seq g1 g3
    generalize putK kvs kd (.int (d0 + 1)) = kv1 at *
    generalize L2.upd H fd (.dK kv1) = H1 at *
    obtain ⟨l0, hl0⟩ := f1.l
    refine ⟨_, rfl, fd, _, rfl, dget_k kl h1 hl0, _, _, rfl, rfl, _, rfl, ?_⟩
    refine ite2 (fun _ => ?_) fun _ => ?_
    · refine ⟨_, rfl, fd, _, rfl, dget_k kl h1 hl0, .inl ⟨_, rfl, _, rfl, _, _, rfl, rfl, mpos, ?_⟩⟩
      refine ⟨_, rfl, fd, _, rfl, dget_k kl h1 hl0, _, rfl, _, _, rfl, rfl, ⟨mpos, by omega⟩, _, rfl, fd, _, rfl, DPut.k (k := kl) h1 (four f1.len), _, rfl, ?_⟩
      exact give _ _ (b1.trans But.upd) (FeedAt.put h1 (f1.put cl_ ⟨l0, hl0⟩) q1 g4)
    · obtain ⟨a0, ha0⟩ := f1.a
      refine ⟨_, rfl, fd, _, rfl, dget_k kc h1 f1.c, _, rfl, fd, _, rfl, dget_k ka h1 ha0, _, _, rfl, ?_⟩
      refine ⟨_, rfl, _, _, rfl, rfl, _, rfl, fd, _, rfl, DPut.k (k := ka) h1 (four f1.len), ?_⟩
      have f2 := f1.put (k := ka) (i := a0 + 1) ca ⟨a0, ha0⟩
      have b2 : But fd H (L2.upd H1 fd (.dK (putK kv1 ka (.int (a0 + 1))))) := b1.trans But.upd
      have h2 : L2.upd H1 fd (.dK (putK kv1 ka (.int (a0 + 1)))) fd = some (.dK (putK kv1 ka (.int (a0 + 1)))) := upd_same
      have q2 := But.seq (But.upd (D := fd) (o := .dK (putK kv1 ka (.int (a0 + 1))))) h1 q1
      generalize putK kv1 ka (.int (a0 + 1)) = kv2 at *
      generalize L2.upd H1 fd (.dK kv2) = H2 at *
      refine ⟨fun σ' H' => ∃ c0 : Int, σ' = [some (.ref fd), some (.int (m : Int)), some (.int c0), none, none, some (.ref cl), some (.int a0)] ∧ But fd H H' ∧ H' fd = some (.dK kv2) ∧ SqL K H' cl (cs.map V.int), ?_, ?_⟩
      · obtain ⟨ds, fl⟩ := FlatL.ints cs
        refine ⟨_, rfl, Nat.zero_le _, fun e0 he0 => ?_⟩
        have se := same_upd (o := .lst []) he0
        refine ne_nil (K := K) (xs := cs.map V.int) (se.seq q2) (SqL.of upd_same) fl ⟨_, rfl, ?_⟩
        have be := b2.trans (But.of (D := fd) se)
        refine ite2 (fun hne => ?_) fun _ => ?_
        · have cpos : 0 < cs.length := by
            cases cs with
            | nil => cases hne
            | cons c cs => exact Nat.succ_pos _
          have cp : (0 : Int) < ((cs.map V.int).length : Nat) := by
            rw [List.length_map]
            omega
          have i0 := Int.emod_nonneg a0 (show (((cs.map V.int).length : Nat) : Int) ≠ 0 by omega)
          have i1 := Int.emod_lt_of_pos a0 cp
          have il : (a0 % (((cs.map V.int).length : Nat) : Int)).toNat < cs.length := by
            rw [List.length_map] at i0 i1 ⊢
            omega
          refine ⟨_, rfl, _, rfl, .inl ⟨_, rfl, _, rfl, cl, _, rfl, .inl (se.seq q2), _, _, rfl, rfl, cp, cl, cs.map V.int, _, .int cs[(a0 % (((cs.map V.int).length : Nat) : Int)).toNat], rfl, rfl, se.seq q2, ?_, _, rfl, be, se _ _ h2, se.seq q2⟩⟩
          have := atI_nat (xs := cs.map V.int) (j := (a0 % (((cs.map V.int).length : Nat) : Int)).toNat) (v := .int cs[(a0 % (((cs.map V.int).length : Nat) : Int)).toNat]) (by rw [List.getElem?_map, List.getElem?_eq_getElem il]; rfl)
          rwa [Int.toNat_of_nonneg i0] at this
        · exact ⟨_, rfl, be, se _ _ h2, se.seq q2⟩
      · rintro σ' H3 ⟨c0, rfl, b3, h3, q3⟩
        obtain ⟨l2, hl2⟩ := f2.l
        obtain ⟨d2, hd2⟩ := f2.d
        refine ⟨fun σ' H' => σ' = [some (.ref fd), some (.int (m : Int)), some (.int c0), none, none, some (.ref cl), some (.int a0)] ∧ H' = H3, ?_, ?_⟩
        · refine ⟨_, rfl, _, _, rfl, rfl, ⟨by decide, by decide, by decide⟩, _, _, rfl, rfl, _, rfl, ?_⟩
          refine ite2 (fun _ => ?_) fun _ => ?_
          · refine ⟨_, rfl, _, rfl, cl, _, rfl, .inl q3, _, _, rfl, rfl, _, rfl, ?_⟩
            refine ite2 (fun _ => ?_) fun _ => ⟨rfl, rfl⟩
            refine ⟨_, rfl, _, rfl, _, _, rfl, rfl, ⟨mpos, by omega⟩, _, rfl, fd, _, rfl, DPut.k (k := kl) h3 (four f2.len), ?_⟩
            refine ⟨_, rfl, .inl ⟨_, rfl, _, rfl, _, _, rfl, rfl, mpos, ?_⟩⟩
            exact give _ _ (b3.trans But.upd) (FeedAt.put h3 (f2.put cl_ ⟨l2, hl2⟩) q3 g4)
          · exact iteF ⟨rfl, rfl⟩
        · rintro σ' H' ⟨rfl, rfl⟩
          refine ⟨_, rfl, .inl ⟨_, rfl, _, _, rfl, rfl, (by decide : (0 : Int) < 1000001477), _, rfl, fd, _, rfl, dget_k kd h3 hd2, _, _, rfl, rfl, .inl ⟨by decide, by decide⟩, _, _, rfl, rfl, _, _, rfl, rfl, .inl ⟨_, rfl, _, _, rfl, rfl, (by decide : (0 : Int) < 2147483323), ?_⟩⟩⟩
          generalize hx : c0 % 1000001477 + 74849 * d2 + 487 = x
          have x0 := Int.emod_nonneg x (show (2147483323 : Int) ≠ 0 by decide)
          have x1 := Int.emod_lt_of_pos x (show (0 : Int) < 2147483323 by decide)
          generalize x % 2147483323 = y at *
          have p64 : (2 : Int) ^ 64 = 18446744073709551616 := by decide
          refine ⟨_, rfl, _, rfl, _, _, rfl, rfl, .inl ⟨by omega, by omega⟩, _, rfl, fd, _, rfl, dget_k kd h3 hd2, _, _, rfl, rfl, .inl ⟨by decide, by decide⟩, _, _, rfl, rfl, _, _, rfl, rfl, .inl ⟨_, rfl, _, _, rfl, rfl, (by decide : (0 : Int) < 2147483171), ?_⟩⟩
          generalize hx2 : y * y + 6106481 * d2 + 283 = x2
          have x20 := Int.emod_nonneg x2 (show (2147483171 : Int) ≠ 0 by decide)
          have x21 := Int.emod_lt_of_pos x2 (show (0 : Int) < 2147483171 by decide)
          generalize x2 % 2147483171 = y2 at *
          refine ⟨_, rfl, _, rfl, _, _, rfl, rfl, .inl ⟨by omega, by omega⟩, _, rfl, _, _, rfl, rfl, .inl ⟨by decide, by decide⟩, _, _, rfl, rfl, .inl ⟨_, rfl, _, _, rfl, rfl, (by decide : (0 : Int) < 2147483123), _, _, rfl, rfl, ⟨by decide, by decide⟩, .inl ⟨_, rfl, _, rfl, _, _, rfl, rfl, mpos, ?_⟩⟩⟩
          exact give _ _ b3 ⟨kv2, h3, f2, q3, g4⟩
end
end K27W
/-! K27: pool, codes, named, row. -/
namespace K27W
open PySem PySem.Spec PyProof.Rows L2 K27R
abbrev SC__law_named : Scope := { kind := .function, names := [(".0", .local), ("_law_word", .local), ("_law_pool_here", .cell)], isGenerator := false, isCoroutine := false }
def pools : List (List Nat) := [[97, 98, 99, 100, 101, 102, 103, 104], [97, 99, 101, 103, 105, 107, 109, 111], [98, 99, 100, 116, 119, 120, 121, 122], [109, 110, 111, 112, 114, 115, 116, 117], [101, 102, 103, 104, 119, 120, 121, 122]]
structure Pool (z : List Nat) : Prop where
  len : z.length = 8
  low : ∀ c ∈ z, 97 ≤ c ∧ c ≤ 122
theorem pools_ok {z : List Nat} (h : z ∈ pools) : Pool z := by
  have a1 : ∀ z ∈ pools, z.length = 8 := by decide
  have a2 : ∀ z ∈ pools, ∀ c ∈ z, 97 ≤ c ∧ c ≤ 122 := by decide
  exact ⟨a1 z h, a2 z h⟩
abbrev Code := Nat × List (List Nat)
def codesD : List Code := [(2, [[0,1,1],[1,0,0]]), (2, [[0,1,1],[0,1,2],[0,2,2],[1,0,0],[1,0,2],[1,2,2],[2,0,0],[2,0,1],[2,1,1]]), (2, [[0,1,1],[1,0,0],[2,0,2],[2,3,3],[3,2,2]]), (2, [[0,1,2],[1,0,0],[1,1,2]]),
  (2, [[0,0,1],[0,1,1]]), (2, [[0,0,0]]), (2, [[0,1,1]]), (2, [[0,1,1],[1,2,2]]), (2, [[0,1,2],[1,2,2],[2,0,0]]), (2, [[0,0,1],[1,2,2],[2,0,0]]), (2, [[0,1,3],[1,2,3],[2,3,3]]), (2, [[0,0,1],[1,1,2],[2,0,2]]),
  (3, [[0,1,1,1],[1,0,0,0]]), (3, [[0,0,1,1],[1,0,0,0]]), (3, [[0,1,1,2],[1,2,2,2]]), (3, [[0,0,0,1],[1,0,2,2],[2,1,1,1]]), (3, [[0,1,2,3],[1,0,0,0]]), (3, [[0,0,0,0],[0,1,1,1]]), (2, [[0,1,1],[1,0,1]]),
  (2, [[0,1,2],[1,0,2],[2,0,1]]), (3, [[0,1,1,1],[1,2,2,2],[2,0,0,0]]), (2, [[0,0,2],[1,1,2]]), (2, [[0,1,1],[0,2,2],[1,3,3],[2,0,0]])]
def partsD (d : Code) : List (List Nat) := [48 + d.1] :: d.2.map fun wd => wd.map (97 + ·)
def codeT (d : Code) : List Nat := TL.joinL [32] (partsD d)
structure GoodD (d : Code) : Prop where
  w : d.1 = 2 ∨ d.1 = 3
  ne : d.2 ≠ []
  few : d.2.length ≤ 9
  wd : ∀ x ∈ d.2, x.length = d.1 + 1 ∧ ∀ i ∈ x, i < 4
theorem codes_ok {d : Code} (h : d ∈ codesD) : GoodD d := by
  have a1 : ∀ d ∈ codesD, d.1 = 2 ∨ d.1 = 3 := by decide
  have a2 : ∀ d ∈ codesD, d.2 ≠ [] := by decide
  have a3 : ∀ d ∈ codesD, d.2.length ≤ 9 := by decide
  have a4 : ∀ d ∈ codesD, ∀ x ∈ d.2, x.length = d.1 + 1 ∧ ∀ i ∈ x, i < 4 := by decide
  exact ⟨a1 d h, a2 d h, a3 d h, a4 d h⟩
theorem codes_split {d : Code} (h : d ∈ codesD) : TL.spl [32] 0 [] (codeT d) = partsD d := by
  have a : ∀ d ∈ codesD, ∀ p ∈ partsD d, 32 ∉ p := by decide
  exact SX.spl_join (c := 32) (sep := []) (by unfold partsD; simp) (a d h)
def rowsN (z : List Nat) (d : Code) : List (List Nat) := d.2.map fun wd => wd.map fun i => z.getD i 0
abbrev n_law_pool : List Str := ["_law_feed_here"]
theorem sc_law_pool : FnScope n_law_pool ["_law_feed_here"] (defScope (top 17)) := ⟨rfl, rfl, rfl, by decide +kernel, rfl, by decide +kernel, by decide +kernel⟩
def spPool (K : PySem.W.Frag) : Sp := fun vs H Q _ => ∃ (fd cl : Addr) (cs : List Int), vs = [.ref fd] ∧ FeedAt K H fd cl cs ∧ ∀ H' p z, But fd H H' → FeedAt K H' fd cl cs → H' p = some (.lst (encO z)) → Pool z → Q (.ref p) H'
abbrev n_law_codes : List Str := ["_law_some"]
theorem sc_law_codes : FnScope n_law_codes [] (defScope (top 20)) := ⟨rfl, rfl, rfl, by decide +kernel, rfl, by decide +kernel, by decide +kernel⟩
def spCodes : Sp := fun vs H Q _ => vs = [] ∧ ∀ H' p, Same H H' → H' p = some (.lst (codesD.map fun d => vS (codeT d))) → Q (.ref p) H'
abbrev n_law_named : List Str := ["_law_code", "_law_pool_here", "_law_words", "_law_rows", "_law_word", "_law_sign"]
theorem sc_law_named : FnScope n_law_named ["_law_code", "_law_pool_here"] (defScope (top 18)) := ⟨rfl, rfl, rfl, by decide +kernel, rfl, by decide +kernel, by decide +kernel⟩
def spNam (K : PySem.W.Frag) : Sp := fun vs H Q _ => ∃ (d : Code) (pl : Addr) (z : List Nat), vs = [vS (codeT d), .ref pl] ∧ d ∈ codesD ∧ H pl = some (.lst (encO z)) ∧ Pool z ∧ ∀ H' t r, Same H H' → H' t = some (.tup [.int ((d.1 : Nat) : Int), .ref r]) → H' r = some (.tup ((K27.sdL (rowsN z d)).map vS)) → Q (.ref t) H'
abbrev n_law_row : List Str := ["_law_feed_here", "_law_width", "_law_letters_here", "_law_under", "_law_k"]
theorem sc_law_row : FnScope n_law_row ["_law_feed_here", "_law_width", "_law_letters_here"] (defScope (top 19)) := ⟨rfl, rfl, rfl, by decide +kernel, rfl, by decide +kernel, by decide +kernel⟩
def spRow (K : PySem.W.Frag) : Sp := fun vs H Q _ => ∃ (fd cl lt : Addr) (cs : List Int) (w : Nat) (ls : List Nat), vs = [.ref fd, .int (w : Int), .ref lt] ∧ FeedAt K H fd cl cs ∧ H lt = some (.lst (encO ls)) ∧ 1 ≤ ls.length ∧ ls.length ≤ 1000 ∧ w ≤ 3 ∧
  ∀ H' (r : List Nat), But fd H H' → FeedAt K H' fd cl cs → r.length = w + 1 → (∀ c ∈ r, c ∈ ls) → Q (vS r) H'
theorem occ8 {i : Nat} (h : i < 4) : ∃ rest, Builtin.Str.occurrences (Str.ofString "abcdefgh") ⟨#[97 + i]⟩ 0 (Str.ofString "abcdefgh").length 1 = i :: rest := by
  have a : ∀ i : Fin 4, Builtin.Str.occurrences (Str.ofString "abcdefgh") ⟨#[97 + i.val]⟩ 0 (Str.ofString "abcdefgh").length 1 = [i.val] := by decide +kernel
  exact ⟨[], a ⟨i, h⟩⟩
section
variable {P : Program} {w : World} {K : PySem.W.Frag} {mg : Str → Option Value} {base : Heap}
theorem c_pool {f : Addr} {fd : FuncData} (F : FnP K "_law_pool" 17 f fd) (hm : mg "_law_pool" = some (.ref f)) (B : Free mg) (C_pick : Cal P w K mg base 2 "_law_pick" (spPick K)) : Cal P w K mg base 3 "_law_pool" (spPool K) := by
  refine cal_of F hm sc_law_pool (fun _ _ _ _ _ _ us hl => match us, hl with | [_], _ => rfl) (fun vs H Q E h => ?_) (fun cdv A outer s H vs Q E hr h => ?_)
  · obtain ⟨fd, cl, cs, rfl, _⟩ := h
    rfl
  · obtain ⟨fd, cl, cs, rfl, hf, q⟩ := h
    have nd := sc_law_pool.nd
    have hu := hu_of hr
    refine ⟨_, pss_one (ps_ret (pe_callTy (call_listS rfl) (by rfl) B.list (by decide +kernel) (pa_cons (pe_c C_pick hr (by decide) (pa_cons (pv 0) (pa_cons (pe_lst (pa_cons pe_str (pa_cons pe_str (pa_cons pe_str (pa_cons pe_str (pa_cons pe_str pa_nil)))))) pa_nil))) pa_nil))), ?_⟩
    have five : 5 ≤ sizeLine := by decide
    refine ⟨_, rfl, five, fun l hl => ?_⟩
    have e : [V.str (Str.ofString "abcdefgh"), .str (Str.ofString "acegikmo"), .str (Str.ofString "bcdtwxyz"), .str (Str.ofString "mnoprstu"), .str (Str.ofString "efghwxyz")] = pools.map vS := by decide +kernel
    have sl := same_upd (o := .lst [V.str (Str.ofString "abcdefgh"), .str (Str.ofString "acegikmo"), .str (Str.ofString "bcdtwxyz"), .str (Str.ofString "mnoprstu"), .str (Str.ofString "efghwxyz")]) hl
    refine ⟨fd, cl, l, cs, pools.map vS, rfl, hf.same sl, SqL.of (by rw [← e]; exact upd_same), by decide, by decide, fun H' x bt hf' hx => ?_⟩
    obtain ⟨z, hz, rfl⟩ := List.mem_map.mp hx
    have pz := pools_ok hz
    refine ⟨S z, rfl, ?_, fun p hp => ?_⟩
    · rw [S_len, pz.len]
      decide
    · have sp := same_upd (o := .lst (K27R.signs (S z))) hp
      exact q _ p z (((But.of sl).trans bt).trans (But.of sp)) (hf'.same sp) upd_same pz
theorem c_codes {f : Addr} {fd : FuncData} (F : FnP K "_law_codes" 20 f fd) (hm : mg "_law_codes" = some (.ref f)) : Cal P w K mg base 1 "_law_codes" spCodes := by
  refine cal_of F hm sc_law_codes (fun _ _ _ _ _ _ us hl => match us, hl with | [], _ => rfl) (fun vs H Q E h => ?_) (fun cdv A outer s H vs Q E hr h => ?_)
  · obtain ⟨rfl, _⟩ := h
    rfl
  · obtain ⟨rfl, q⟩ := h
    have nd := sc_law_codes.nd
    have hu := hu_of hr
    refine ⟨_, pss_cons (ps_set (i := 0) nd rfl (Or.inl rfl) (pe_lst (pa_cons pe_str (pa_cons pe_str (pa_cons pe_str (pa_cons pe_str pa_nil))))))
      (pss_cons (ps_set (i := 0) nd rfl (Or.inl rfl) (pe_op op_cat (pv 0) (pe_lst (pa_cons pe_str (pa_cons pe_str (pa_cons pe_str (pa_cons pe_str (pa_cons pe_str (pa_cons pe_str (pa_cons pe_str (pa_cons pe_str pa_nil)))))))))))
      (pss_cons (ps_set (i := 0) nd rfl (Or.inl rfl) (pe_op op_cat (pv 0) (pe_lst (pa_cons pe_str (pa_cons pe_str (pa_cons pe_str (pa_cons pe_str (pa_cons pe_str (pa_cons pe_str (pa_cons pe_str pa_nil))))))))))
      (pss_one (ps_ret (pe_op op_cat (pv 0) (pe_lst (pa_cons pe_str (pa_cons pe_str (pa_cons pe_str (pa_cons pe_str pa_nil)))))))))), ?_⟩
    have z30 : ∀ n, n ≤ 30 → n ≤ sizeLine := fun n h => Nat.le_of_lt (small24 (by omega))
    refine ⟨z30 4 (by decide), fun l1 h1 => ?_⟩
    refine ⟨_, rfl, z30 8 (by decide), fun l2 h2 => ⟨l1, l2, _, _, rfl, rfl, (same_upd h2) _ _ upd_same, upd_same, z30 12 (by decide), fun l3 h3 => ?_⟩⟩
    refine ⟨_, rfl, z30 7 (by decide), fun l4 h4 => ⟨l3, l4, _, _, rfl, rfl, (same_upd h4) _ _ upd_same, upd_same, z30 19 (by decide), fun l5 h5 => ?_⟩⟩
    refine ⟨_, rfl, z30 4 (by decide), fun l6 h6 => ⟨l5, l6, _, _, rfl, rfl, (same_upd h6) _ _ upd_same, upd_same, z30 23 (by decide), fun l7 h7 => ?_⟩⟩
    refine q _ l7 ((same_upd h1).trans ((same_upd h2).trans ((same_upd h3).trans ((same_upd h4).trans ((same_upd h5).trans ((same_upd h6).trans (same_upd h7))))))) ?_
    rw [upd_same]
    congr 2
theorem c_row {f : Addr} {fd : FuncData} (F : FnP K "_law_row" 19 f fd) (hm : mg "_law_row" = some (.ref f)) (B : Free mg) (C_pick : Cal P w K mg base 2 "_law_pick" (spPick K)) : Cal P w K mg base 3 "_law_row" (spRow K) := by
  refine cal_of F hm sc_law_row (fun _ _ _ _ _ _ us hl => match us, hl with | [_, _, _], _ => rfl) (fun vs H Q E h => ?_) (fun cdv A outer s H vs Q E hr h => ?_)
  · obtain ⟨fd, cl, lt, cs, w, ls, rfl, _⟩ := h
    rfl
  · obtain ⟨fd, cl, lt, cs, w, ls, rfl, hf, hl, l1, l2, w3, q⟩ := h
    have nd := sc_law_row.nd
    have hu := hu_of hr
    refine ⟨_, pss_cons (ps_setLc (i := 3) (own := [("_law_k", 4)]) (g := gName 4) (by rfl) nd rfl rfl (sw_true rfl rfl rfl (by decide +kernel)) (pi_range1 (by rfl) B.range (pa_cons (pv 1) pa_nil)) (blkOk_by (own := [("_law_k", 4)]) (N := n_law_row) (sc := defScope (top 19)) (by decide +kernel)) (fun _ _ _ _ _ => pg_name (i := 4) nd rfl (Or.inl rfl)) (fun _ _ _ _ _ => pts_nil) (fun _ _ _ _ _ => pe_c C_pick hr (by decide) (pa_cons (pv 0) (pa_cons (pv 2) pa_nil))))
      (pss_one (ps_ret (pe_op op_add_str (pe_c C_pick hr (by decide) (pa_cons (pv 0) (pa_cons (pv 2) pa_nil))) (pe_j0 K (pe_callB (sortedAK K) (by rfl) B.sorted (by decide +kernel) (pa_cons (pv 3) pa_nil)))))), ?_⟩
    have hw' : ((w : Nat) : Int).toNat = w := Int.toNat_natCast w
    refine ⟨_, rfl, (w : Int), rfl, by omega, by omega, fun D hD => ?_⟩
    rw [hw']
    have fdk : ∀ {H : Hp}, FeedAt K H fd cl cs → ∃ kvs, H fd = some (.dK kvs) := fun h => let ⟨kvs, h, _⟩ := h.ex; ⟨kvs, h⟩
    have sD := same_upd (o := .lst []) hD
    obtain ⟨k0, hk0⟩ := fdk hf
    have el : (encO ls).length = ls.length := List.length_map ..
    refine walk_it (walk_range (lo := 0) (n := w)) (fun n H' => But fd H H' ∧ FeedAt K H' fd cl cs ∧ ∃ us : List Nat, H' D = some (.lst ((us.map fun c => [c]).map vS)) ∧ us.length = n ∧ ∀ c ∈ us, c ∈ ls) ⟨But.of sD, hf.same sD, [], upd_same, rfl, fun c hc => nomatch hc⟩ (fun _ _ _ _ => trivial) (fun n x H1 H2 hn pv y => ?_) fun H1 pv => ?_
    · obtain ⟨bt, hf1, us, hus, ul, um⟩ := pv
      obtain ⟨rfl, rfl⟩ := y
      have hl1 := bt.seq hk0 (K := K) (SqL.of hl)
      obtain ⟨k1, hk1⟩ := fdk hf1
      refine ⟨rfl, _, rfl, _, rfl, fd, cl, lt, cs, encO ls, rfl, hf1, hl1, by omega, by omega, fun H3 x b3 hf3 hx => ?_⟩
      obtain ⟨c, hc, rfl⟩ := List.mem_map.mp hx
      have Dfd : D ≠ fd := fun e => by
        rw [e, hk1] at hus
        cases hus
      have hus3 := b3 _ _ Dfd hus
      obtain ⟨k3, hk3⟩ := fdk hf3
      have btn : But fd H (L2.upd H3 D (.lst ((us.map fun c => [c]).map vS ++ [V.str (S [c])]))) := fun b o hb e => by
        rw [upd_ne (ne_of_none e hD)]
        exact b3 _ _ hb (bt _ _ hb e)
      refine ⟨_, hus3, ?_, btn, ?_, us ++ [c], ?_, by rw [List.length_append, ul]; rfl, fun d hd => ?_⟩
      · rw [List.length_map, List.length_map]
        exact small24 (by omega)
      · obtain ⟨kvs, g1, g2, g3, g4⟩ := hf3.ex
        obtain ⟨kvs0, g10, g20, g30, g40⟩ := hf.ex
        exact ⟨kvs, by rw [upd_ne (Ne.symm Dfd)]; exact g1, g2, btn.seq g10 g30, g4⟩
      · rw [upd_same, List.map_append, List.map_append]
        rfl
      · rcases List.mem_append.mp hd with hd | hd
        · exact um d hd
        · rw [List.mem_singleton.mp hd]
          exact hc
    · obtain ⟨bt, hf1, us, hus, ul, um⟩ := pv
      have hl1 := bt.seq hk0 (K := K) (SqL.of hl)
      obtain ⟨k1, hk1⟩ := fdk hf1
      refine ⟨_, rfl, _, rfl, fd, cl, lt, cs, encO ls, rfl, hf1, hl1, by omega, by omega, fun H3 x b3 hf3 hx => ?_⟩
      obtain ⟨c, hc, rfl⟩ := List.mem_map.mp hx
      have Dfd : D ≠ fd := fun e => by
        rw [e, hk1] at hus
        cases hus
      refine ⟨⟨_, rfl⟩, _, rfl, D, us.map fun c => [c], rfl, SqL.of (b3 _ _ Dfd hus), fun p ys hp pm => ?_⟩
      have pf : ys.flatten.Perm us := by
        have := pm.flatten
        rwa [K27.flatten_one] at this
      have fl := pf.length_eq
      refine ⟨p, ys, rfl, rfl, .inl (SqL.of upd_same), by omega, _, _, rfl, rfl, ?_, ?_⟩
      · rw [S_len, S_len, fl, ul]
        exact Nat.le_of_lt (small24 (by show 1 + w ≤ _; omega))
      · rw [S_cat]
        have sp := same_upd (o := .lst (ys.map vS)) hp
        refine q _ ([c] ++ ys.flatten) ((bt.trans b3).trans (But.of sp)) (hf3.same sp) ?_ fun d hd => ?_
        · rw [List.length_append, fl, ul, Nat.add_comm]
          rfl
        · rcases List.mem_append.mp hd with hd | hd
          · rw [List.mem_singleton.mp hd]
            exact hc
          · exact um d (pf.mem_iff.mp hd)
end
end K27W
/-! K27: named, grid. -/
namespace K27W
open PySem PySem.Spec PyProof.Rows L2 K27R
theorem code_len {d : Code} (h : d ∈ codesD) : (codeT d).length ≤ 100 := by
  have a : ∀ d ∈ codesD, (codeT d).length ≤ 100 := by decide +kernel
  exact a d h
theorem good_of {rs : List (List Nat)} {z : List Nat} {wd m : Nat} (hne : rs ≠ []) (hl : rs.length ≤ 16) (hr : ∀ r ∈ rs, r.length = wd + 1 ∧ ∀ c ∈ r, c ∈ z.take m) (pz : Pool z) (hm : m ≤ 4) (hw : wd = 2 ∨ wd = 3) : Good ⟨wd, K27.sdL rs⟩ := by
  have mem : ∀ r, r ∈ K27.sdL rs ↔ r ∈ rs := fun r => K27.mem_sdG r _
  have sub : ∀ c ∈ (K27.Grid.mk wd (K27.sdL rs)).let_, c ∈ z.take m := fun c hc => by
    obtain ⟨r, h1, h2⟩ := List.mem_flatten.mp ((K27.mem_sdG c _).mp hc)
    exact (hr r ((mem r).mp h1)).2 c h2
  refine ⟨⟨hw, fun r h => (hr r ((mem r).mp h)).1, ?_⟩, ?_, fun r h c hc => ?_, fun e => ?_⟩
  · have := K27.sub_len (K27.asc_nodup K27.linN K27.let_asc) sub
    rw [List.length_take] at this
    omega
  · have : (K27.sdL rs).length ≤ rs.length := K27.sdG_len _
    show (K27.sdL rs).length ≤ 16
    omega
  · exact pz.low c (List.mem_of_mem_take ((hr r ((mem r).mp h)).2 c hc))
  · obtain ⟨r, h⟩ := List.exists_mem_of_ne_nil _ hne
    have := (mem r).mpr h
    rw [show K27.sdL rs = [] from e] at this
    cases this
section
variable {P : Program} {w : World} {K : PySem.W.Frag} {mg : Str → Option Value} {base : Heap}
theorem c_named {f : Addr} {fd : FuncData} (F : FnP K "_law_named" 18 f fd) (hm : mg "_law_named" = some (.ref f)) (B : Free mg) : Cal P w K mg base 1 "_law_named" (spNam K) := by
  refine cal_of F hm sc_law_named (fun _ _ _ _ _ _ us hl => match us, hl with | [_, _], _ => rfl) (fun vs H Q E h => ?_) (fun cdv A outer s H vs Q E hr h => ?_)
  · obtain ⟨d, pl, z, rfl, _⟩ := h
    rfl
  · obtain ⟨d, pl, z, rfl, hd, hpl, pz, q⟩ := h
    have nd := sc_law_named.nd
    have hu := hu_of hr
    refine ⟨_, pss_cons (ps_set (i := 2) nd rfl (Or.inl rfl) (pe_split (pv 0) pe_str))
      (pss_cons (ps_setLc (i := 3) (own := [("_law_word", 4)]) (g := gName 4) (by rfl) nd rfl rfl (sw_true rfl rfl rfl (by decide +kernel)) (pi_listK K (pe_slice (sl_listK K) (pv 2) (po_some pe_int) po_none)) (blkOk_by (own := [("_law_word", 4)]) (N := n_law_named) (sc := defScope (top 18)) (by decide +kernel)) (fun _ _ _ _ _ => pg_name (i := 4) nd rfl (Or.inl rfl)) (fun _ _ _ _ _ => pts_nil) (fun _ _ _ _ _ => pe_j0 K (pe_lc (own := [("_law_sign", 5)]) (g := gName 5) (by rfl) nd (pi_str (pv 4)) (blkOk_by (own := [("_law_sign", 5)]) (N := n_law_named) (sc := SC__law_named) (by decide +kernel)) (fun _ _ _ _ _ => pg_name (i := 5) nd rfl (Or.inl rfl)) (fun _ _ _ _ _ => pts_nil) (fun _ _ _ _ _ => pe_ix (ix_listK K) (pv 1) (pe_m1 PySem.F.slot_str_index PySem.F.type_str_index mt_sindex pe_str (pv 5)) (fun _ _ => rfl)))))
      (pss_one (ps_ret (pe_tup (pa_cons (pe_callTy call_int_str (by rfl) B.int (by decide +kernel) (pa_cons (pe_ix (ix_listK K) (pv 2) pe_int (fun _ _ => rfl)) pa_nil)) (pa_cons (pe_callTy (tuple_ofK K) (by rfl) B.tuple (by decide +kernel) (pa_cons (pe_ss B rfl (pv 3)) pa_nil)) pa_nil)))))), ?_⟩
    have gd := codes_ok hd
    have cl := code_len hd
    have space : (Str.ofString " " : Str) = S [32] := by decide +kernel
    refine ⟨_, rfl, ⟨_, rfl⟩, _, _, rfl, rfl, by decide +kernel, ?_, fun p hp => ?_⟩
    · rw [S_len]
      exact Nat.le_of_lt (small24 (by omega))
    rw [space, SX.split_S (by decide) (by decide), codes_split hd]
    have sp := same_upd (o := .lst (((partsD d).map SX.S).map V.str)) hp
    have hp' : L2.upd H p (.lst (((partsD d).map SX.S).map V.str)) p = some (.lst ((partsD d).map vS)) := by
      rw [upd_same, map_vS]
    refine ⟨_, rfl, 1, rfl, p, _, rfl, SqL.of hp', fun y hy => ?_⟩
    have cut : cutV ((partsD d).map vS) (some 1) none = (d.2.map fun wd => wd.map (97 + ·)).map vS := by
      unfold cutV partsD
      rw [List.map_cons, List.length_cons]
      have e1 : HT.sIx (((d.2.map fun wd => wd.map (97 + ·)).map vS).length + 1) 0 (some 1) = 1 := by
        have := HT.sIx_nat (((d.2.map fun wd => wd.map (97 + ·)).map vS).length + 1) 0 1
        exact this.trans (Nat.min_eq_left (by omega))
      rw [e1, HT.sIx_none, List.drop_succ_cons, List.drop_zero, List.take_of_length_le (by omega)]
    rw [cut]
    have sy := sp.trans (same_upd (o := .lst ((d.2.map fun wd => wd.map (97 + ·)).map vS)) hy)
    refine ⟨y, rfl, ⟨_, SqL.of upd_same⟩, fun D hD => ?_⟩
    have few := gd.few
    refine lc_fl (walk_list (xs := (d.2.map fun wd => wd.map (97 + ·)).map vS)) d.2 (fun wd => some (vS (wd.map fun i => z.getD i 0))) (by rw [List.length_map, List.length_map]) (by rw [List.length_map, List.length_map]; omega) hD (fun H' s' => s'.seq (SqL.of upd_same)) (fun i wd x H1 H2 Qy Qn hi hwd s1 _ yl qy _ => ?_) fun H1 s1 h1 => ?_
    · obtain ⟨rfl, hx⟩ := yl
      obtain ⟨l1, hl1, rfl⟩ := map_take _ _ _ _ hx
      obtain ⟨wd', hwd', rfl⟩ := map_take _ _ _ _ hl1
      rw [hwd'] at hwd
      cases hwd
      obtain ⟨wl, wi⟩ := gd.wd wd (List.mem_of_getElem? hwd')
      have w23 := gd.w
      refine ⟨rfl, ⟨_, rfl⟩, _, rfl, S (wd.map (97 + ·)), rfl, fun D2 hD2 => ?_⟩
      refine lc_fl (walk_txt (wd.map (97 + ·))) wd (fun i => some (vS [z.getD i 0])) (by rw [List.length_map]) (by rw [List.length_map]; omega) hD2 (fun _ _ => trivial) (fun k j x H3 H4 Qy2 Qn2 hk hj s3 _ yl2 qy2 _ => ?_) fun H3 s3 h3 => ?_
      · obtain ⟨rfl, c, hc, rfl⟩ := yl2
        rw [List.getElem?_map, hj] at hc
        cases hc
        have j4 := wi j (List.mem_of_getElem? hj)
        obtain ⟨rest, ho⟩ := occ8 j4
        have hz : z[j]? = some (z.getD j 0) := by
          have : j < z.length := by rw [pz.len]; omega
          rw [List.getElem?_eq_getElem this, List.getD_eq_getElem?_getD, List.getElem?_eq_getElem this]
          rfl
        refine ⟨rfl, _, rfl, ⟨_, rfl⟩, _, rfl, _, _, j, rest, rfl, rfl, ho, pl, _, _, vS [z.getD j 0], rfl, rfl, SqL.of (s3 _ _ (s1 _ _ (sy _ _ hpl))), atI_nat (by rw [List.getElem?_map, hz]; rfl), qy2 _ _ rfl (Same.refl _)⟩
      · rw [fm_some] at h3
        have ef : (wd.map fun i => [z.getD i 0]) = (wd.map fun i => z.getD i 0).map fun c => [c] := by
          rw [List.map_map]
          rfl
        refine ⟨D2, wd.map fun i => [z.getD i 0], rfl, rfl, .inl (SqL.of (by rw [h3, List.map_map]; rfl)), ?_, ?_⟩
        · rw [ef, K27.flatten_one, List.length_map]
          omega
        · rw [ef, K27.flatten_one]
          exact qy _ _ rfl s3
    · rw [fm_some] at h1
      have hp1 := s1 _ _ ((same_upd (o := .lst ((d.2.map fun wd => wd.map (97 + ·)).map vS)) hy) _ _ hp')
      have it : intText? (S [48 + d.1]) = some ((d.1 : Nat) : Int) := by
        rcases gd.w with e | e <;> rw [e] <;> decide +kernel
      have two : 2 ≤ sizeLine := by decide
      refine ⟨_, rfl, p, _, _, vS [48 + d.1], rfl, rfl, SqL.of hp1, atI_nat (j := 0) rfl, S [48 + d.1], ((d.1 : Nat) : Int), rfl, it, ?_, _, rfl, ?_⟩
      · rw [S_len]
        show 1 ≤ 640
        decide
      · refine ss_go (zs := (rowsN z d).map S) (.inr ⟨D, rfl, SqL.of ?_⟩) ?_ fun p2 H2 s2 hp2 h2 => ?_
        · rw [h1, ← map_vS]
          unfold rowsN
          rw [List.map_map]
          rfl
        · unfold rowsN
          rw [List.length_map, List.length_map]
          omega
        · rw [sortT_S, ← map_vS] at h2
          refine ⟨p2, _, rfl, .inl ⟨SqL.of h2, fun r hr => ⟨two, fun t ht => ?_⟩⟩⟩
          have sr := same_upd (o := .tup ((K27.sdL (rowsN z d)).map vS)) hr
          have st := same_upd (o := .tup [V.int ((d.1 : Nat) : Int), .ref r]) ht
          exact q _ t r ((sy.trans s1).trans (s2.trans (sr.trans st))) upd_same (st _ _ upd_same)
theorem rows_go {fd cl lt D : Addr} {cs : List Int} {wd n : Nat} {ls : List Nat} {H1 : Hp} {x1 x2 x3 x5 x7 x8 : Option V} {Qd : Hp → Prop} (hf : FeedAt K H1 fd cl cs) (hl : H1 lt = some (.lst (encO ls))) (l1 : 1 ≤ ls.length) (l2 : ls.length ≤ 1000) (hw : wd ≤ 3) (hn : n ≤ 100) (hD : H1 D = none)
    (hd : ∀ H (rs : List (List Nat)), But fd H1 H → FeedAt K H fd cl cs → H D = some (.lst (rs.map vS)) → rs.length = n → (∀ r ∈ rs, r.length = wd + 1 ∧ ∀ c ∈ r, c ∈ ls) → Qd H) :
    ∃ W : Nat → Nat → Hp → Prop, (∃ m, W 0 m (L2.upd H1 D (.lst []))) ∧ ∀ i m H, W i m H →
      ((Itr 0 n).stop i H ∧ Qd H) ∨ ((Itr 0 n).go i H ∧ ∃ Nx : Hp → Prop, (∀ H', Nx H' → ∃ m', m' < m ∧ W (i + 1) m' H') ∧ ∀ x H', (Itr 0 n).yld i H x H' → gName 8 x (wipe [some (.ref fd), x1, x2, x3, some (.ref lt), x5, some (.int ((wd : Nat) : Int)), x7, x8] [8]) H' fun σ2 H2 => wipe σ2 [8] = wipe [some (.ref fd), x1, x2, x3, some (.ref lt), x5, some (.int ((wd : Nat) : Int)), x7, x8] [8] ∧ tYes σ2 H2 fun b H3 =>
        if b = true then tCall (spRow K) [] E0 (tCons (tVar 0) (tCons (tVar 6) (tCons (tVar 4) tNil))) σ2 H3 fun y H4 => ∃ acc, H4 D = some (.lst acc) ∧ acc.length < sizeLine ∧ Nx (L2.upd H4 D (.lst (acc ++ [y]))) else Nx H3) := by
  obtain ⟨kv0, g10, g20, g30, g40⟩ := hf.ex
  have sD := same_upd (o := .lst []) hD
  refine walk_it (walk_range (lo := 0) (n := n)) (fun i H' => But fd H1 H' ∧ FeedAt K H' fd cl cs ∧ ∃ rs : List (List Nat), H' D = some (.lst (rs.map vS)) ∧ rs.length = i ∧ ∀ r ∈ rs, r.length = wd + 1 ∧ ∀ c ∈ r, c ∈ ls) ⟨But.of sD, hf.same sD, [], upd_same, rfl, fun c hc => nomatch hc⟩ (fun _ _ _ _ => trivial) (fun i x H2 H3 hi pv y => ?_) fun H2 pv => ?_
  · obtain ⟨bt, hf2, rs, hrs, rl, rm⟩ := pv
    obtain ⟨rfl, rfl⟩ := y
    obtain ⟨k2, hk2, _⟩ := hf2.ex
    have lfd : lt ≠ fd := fun e => by
      rw [e, g10] at hl
      cases hl
    have Dfd : D ≠ fd := fun e => by
      rw [e, hk2] at hrs
      cases hrs
    refine ⟨rfl, _, rfl, _, rfl, _, rfl, fd, cl, lt, cs, wd, ls, rfl, hf2, bt _ _ lfd hl, l1, l2, hw, fun H4 r b4 f4 hr1 hr2 => ?_⟩
    have btn : But fd H1 (L2.upd H4 D (.lst (rs.map vS ++ [vS r]))) := fun b o hb e => by
      rw [upd_ne (ne_of_none e hD)]
      exact b4 _ _ hb (bt _ _ hb e)
    obtain ⟨k4, h41, h42, h43, h44⟩ := f4.ex
    refine ⟨_, b4 _ _ Dfd hrs, ?_, btn, ⟨k4, by rw [upd_ne (Ne.symm Dfd)]; exact h41, h42, btn.seq g10 g30, h44⟩, rs ++ [r], ?_, by rw [List.length_append, rl]; rfl, fun t ht => ?_⟩
    · rw [List.length_map]
      exact small24 (by omega)
    · rw [upd_same, List.map_append]
      rfl
    · rcases List.mem_append.mp ht with ht | ht
      · exact rm t ht
      · rw [List.mem_singleton.mp ht]
        exact ⟨hr1, hr2⟩
  · obtain ⟨bt, hf2, rs, hrs, rl, rm⟩ := pv
    exact hd H2 rs bt hf2 hrs rl rm
end
end K27W
/-! K27: grid. -/
namespace K27W
open PySem PySem.Spec PyProof.Rows L2 K27R
def kept (m : Nat) : List Code := codesD.filter fun d => decide (97 + m ∉ codeT d)
theorem kept_3 : kept 3 ≠ [] := by decide +kernel
theorem kept_4 : kept 4 ≠ [] := by decide +kernel
theorem kept_ix {m : Nat} (hm : m = 3 ∨ m = 4) {d : Code} (h : d ∈ kept m) : d ∈ codesD ∧ ∀ x ∈ d.2, ∀ i ∈ x, i < m := by
  obtain ⟨h1, h2⟩ := List.mem_filter.mp h
  refine ⟨h1, ?_⟩
  rcases hm with rfl | rfl
  · have a : ∀ d ∈ codesD, decide (97 + 3 ∉ codeT d) = true → ∀ x ∈ d.2, ∀ i ∈ x, i < 3 := by decide +kernel
    exact a d h1 h2
  · exact fun x hx i hi => ((codes_ok h1).wd x hx).2 i hi
theorem rows_in {z : List Nat} (pz : Pool z) {m : Nat} (hm : m = 3 ∨ m = 4) {d : Code} (h : d ∈ kept m) : ∀ r ∈ rowsN z d, r.length = d.1 + 1 ∧ ∀ c ∈ r, c ∈ z.take m := by
  intro r hr
  obtain ⟨hd, hi⟩ := kept_ix hm h
  obtain ⟨x, hx, rfl⟩ := List.mem_map.mp hr
  refine ⟨by rw [List.length_map]; exact ((codes_ok hd).wd x hx).1, fun c hc => ?_⟩
  obtain ⟨i, hix, rfl⟩ := List.mem_map.mp hc
  have im := hi x hx i hix
  have i8 : i < z.length := by
    rw [pz.len]
    omega
  have e : z.getD i 0 = z[i] := by
    rw [List.getD_eq_getElem?_getD, List.getElem?_eq_getElem i8]
    rfl
  rw [e]
  refine List.mem_of_getElem? (i := i) ?_
  rw [List.getElem?_take, if_pos im, List.getElem?_eq_getElem i8]
theorem map_erase {α β : Type} (f : α → β) : ∀ (l : List α) (i : Nat), (l.map f).eraseIdx i = (l.eraseIdx i).map f
  | [], _ => rfl
  | _ :: _, 0 => rfl
  | a :: l, i + 1 => by
    show f a :: (l.map f).eraseIdx i = f a :: (l.eraseIdx i).map f
    rw [map_erase f l i]
abbrev n_law_grid : List Str := ["_law_feed_here", "_law_most", "_law_pool_here", "_law_codes_here", "_law_letters_here", "_law_rows", "_law_width", "_law_code", "_law_k"]
theorem sc_law_grid : FnScope n_law_grid ["_law_feed_here", "_law_most"] (defScope (top 22)) := ⟨rfl, rfl, rfl, by decide +kernel, rfl, by decide +kernel, by decide +kernel⟩
def spGrid (K : PySem.W.Frag) : Sp := fun vs H Q _ => ∃ (fd cl : Addr) (cs : List Int) (m : Nat), vs = [.ref fd, .int (m : Int)] ∧ FeedAt K H fd cl cs ∧ (m = 3 ∨ m = 4) ∧ ∀ H' t g, But fd H H' → FeedAt K H' fd cl cs → GridAt K H' t g → Good g → Q (.ref t) H'
/-- the rows so far -/
structure RowsOk (z : List Nat) (m wd : Nat) (rs : List (List Nat)) (n : Nat) : Prop where
  ne : rs ≠ []
  len : rs.length ≤ n
  row : ∀ r ∈ rs, r.length = wd + 1 ∧ ∀ c ∈ r, c ∈ z.take m
section
variable {P : Program} {w : World} {K : PySem.W.Frag} {mg : Str → Option Value} {base : Heap}
theorem c_grid {f : Addr} {fd : FuncData} (F : FnP K "_law_grid" 22 f fd) (hm : mg "_law_grid" = some (.ref f)) (B : Free mg) (C_pool : Cal P w K mg base 3 "_law_pool" (spPool K)) (C_codes : Cal P w K mg base 1 "_law_codes" spCodes) (C_named : Cal P w K mg base 1 "_law_named" (spNam K))
    (C_pick : Cal P w K mg base 2 "_law_pick" (spPick K)) (C_letters : Cal P w K mg base 1 "_law_letters" (spLet K)) (C_draw : Cal P w K mg base 1 "_law_draw" (spDraw K)) (C_row : Cal P w K mg base 3 "_law_row" (spRow K)) : Cal P w K mg base 4 "_law_grid" (spGrid K) := by
  refine cal_of F hm sc_law_grid (fun _ _ _ _ _ _ us hl => match us, hl with | [_, _], _ => rfl) (fun vs H Q E h => ?_) (fun cdv A outer s H vs Q E hr h => ?_)
  · obtain ⟨fd, cl, cs, m, rfl, _⟩ := h
    rfl
  · obtain ⟨fd, cl, cs, m, rfl, hf, hm34, q⟩ := h
    have nd := sc_law_grid.nd
    have hu := hu_of hr
    refine ⟨_, pss_cons (ps_set (i := 2) nd rfl (Or.inl rfl) (pe_c C_pool hr (by decide) (pa_cons (pv 0) pa_nil)))
      (pss_cons (ps_setLc (i := 3) (own := [("_law_code", 7)]) (g := gName 7) (by rfl) nd rfl rfl (sw_true rfl rfl rfl (by decide +kernel)) (pi_listK K (pe_c0 C_codes hr (by decide))) (blkOk_by (own := [("_law_code", 7)]) (N := n_law_grid) (sc := defScope (top 22)) (by decide +kernel)) (fun _ _ _ _ _ => pg_name (i := 7) nd rfl (Or.inl rfl)) (fun _ _ _ _ _ => pts_one (pt_cmpR op_notIn_sign (pe_ix ix_str pe_str (pv 1) (fun _ _ => rfl)) (pv 7) (by with_unfolding_all rfl))) (fun _ _ _ _ _ => pv 7))
      (pss_cons (ps_asg (pe_c C_named hr (by decide) (pa_cons (pe_c C_pick hr (by decide) (pa_cons (pv 0) (pa_cons (pv 3) pa_nil))) (pa_cons (pv 2) pa_nil))) (pg_tupK K (by rfl) (pgs_cons (pg_name (i := 6) nd rfl (Or.inr rfl)) (pgs_cons (pg_name (i := 5) nd rfl (Or.inl rfl)) pgs_nil))))
      (pss_cons (ps_set (i := 4) nd rfl (Or.inr rfl) (pe_c C_letters hr (by decide) (pa_cons (pe_tup (pa_cons (pv 6) (pa_cons (pv 5) pa_nil))) pa_nil)))
      (C8.pss_cut (ps_if (pt_cmpR op_eq (pe_c C_draw hr (by decide) (pa_cons (pv 0) (pa_cons pe_int pa_nil))) pe_int (nomark _)) (pss_cons (ps_set (i := 6) nd rfl (Or.inr rfl) (pe_op op_add pe_int (pe_c C_draw hr (by decide) (pa_cons (pv 0) (pa_cons pe_int pa_nil)))))
        (pss_cons (ps_set (i := 4) nd rfl (Or.inr rfl) (pe_slice (sl_listK K) (pv 2) po_none (po_some (pe_op op_add pe_int (pe_c C_draw hr (by decide) (pa_cons (pv 0) (pa_cons (pv 1) pa_nil)))))))
        (pss_one (ps_setLc (i := 5) (own := [("_law_k", 8)]) (g := gName 8) (by rfl) nd rfl rfl (sw_true rfl rfl rfl (by decide +kernel)) (pi_range1 (by rfl) B.range (pa_cons (pe_op op_add pe_int (pe_c C_draw hr (by decide) (pa_cons (pv 0) (pa_cons pe_int pa_nil)))) pa_nil)) (blkOk_by (own := [("_law_k", 8)]) (N := n_law_grid) (sc := defScope (top 22)) (by decide +kernel)) (fun _ _ _ _ _ => pg_name (i := 8) nd rfl (Or.inl rfl)) (fun _ _ _ _ _ => pts_nil) (fun _ _ _ _ _ => pe_c C_row hr (by decide) (pa_cons (pv 0) (pa_cons (pv 6) (pa_cons (pv 4) pa_nil)))))))) pss_nil)
      (pss_cons (ps_set (i := 5) nd rfl (Or.inl rfl) (pe_op op_cat (pe_callTy (list_ofK K) (by rfl) B.list (by decide +kernel) (pa_cons (pv 5) pa_nil)) (pe_lc (own := [("_law_k", 8)]) (g := gName 8) (by rfl) nd (pi_range1 (by rfl) B.range (pa_cons (pe_c C_pick hr (by decide) (pa_cons (pv 0) (pa_cons (pe_lst (pa_cons pe_int (pa_cons pe_int (pa_cons pe_int (pa_cons pe_int (pa_cons pe_int pa_nil)))))) pa_nil))) pa_nil)) (blkOk_by (own := [("_law_k", 8)]) (N := n_law_grid) (sc := defScope (top 22)) (by decide +kernel)) (fun _ _ _ _ _ => pg_name (i := 8) nd rfl (Or.inl rfl)) (fun _ _ _ _ _ => pts_nil) (fun _ _ _ _ _ => pe_c C_row hr (by decide) (pa_cons (pv 0) (pa_cons (pv 6) (pa_cons (pv 4) pa_nil)))))))
      (C8.pss_cut (ps_if (PW.pt (pw_and (pt_cmpR op_gt (pe_callB (len_seqK K) (by rfl) B.len (by decide +kernel) (pa_cons (pv 5) pa_nil)) pe_int (nomark _)) (pw_and1 (pt_cmpR op_eq (pe_c C_draw hr (by decide) (pa_cons (pv 0) (pa_cons pe_int pa_nil))) pe_int (nomark _))))) (pss_one (ps_expr (pe_bmK K PySem.F.plainAttrs_list PySem.F.slot_list_pop PySem.F.type_list_pop mt_popAt (pv 5) (pa_cons (pe_c C_draw hr (by decide) (pa_cons (pv 0) (pa_cons (pe_callB (len_seqK K) (by rfl) B.len (by decide +kernel) (pa_cons (pv 5) pa_nil)) pa_nil))) pa_nil)))) pss_nil)
      (pss_one (ps_ret (pe_tup (pa_cons (pv 6) (pa_cons (pe_callTy (tuple_ofK K) (by rfl) B.tuple (by decide +kernel) (pa_cons (pe_ss B rfl (pv 5)) pa_nil)) pa_nil))))))))))), ?_⟩
    have two : 2 ≤ sizeLine := by decide
    have five : 5 ≤ sizeLine := by decide
    have fdk : ∀ {H : Hp}, FeedAt K H fd cl cs → ∃ kvs, H fd = some (.dK kvs) := fun h => let ⟨kvs, h, _⟩ := h.ex; ⟨kvs, h⟩
    have lst : ∀ {H : Hp} {p : Addr} {xs : List V}, FeedAt K H fd cl cs → H p = some (.lst xs) → p ≠ fd := fun hf hp e => by
      obtain ⟨kvs, hk⟩ := fdk hf
      rw [e, hk] at hp
      cases hp
    refine ⟨_, rfl, fd, cl, cs, rfl, hf, fun H1 pl z b1 f1 hpl pz => ?_⟩
    refine ⟨rfl, fun H2 cp s2 hcp => ⟨cp, rfl, ⟨_, SqL.of hcp⟩, fun D hD => ?_⟩⟩
    have abc : (Str.ofString "abcdefgh" : Str) = S [97, 98, 99, 100, 101, 102, 103, 104] := by decide +kernel
    refine lc_fl (walk_list (xs := codesD.map fun d => vS (codeT d))) codesD (fun d => if 97 + m ∉ codeT d then some (vS (codeT d)) else none) (List.length_map ..).symm (by rw [List.length_map]; decide) hD (fun H' s' => s'.seq (SqL.of hcp)) (fun i d x H3 H4 Qy Qn hi hd s3 _ yl qy qn => ?_) fun H3 s3 h3 => ?_
    · obtain ⟨rfl, hx⟩ := yl
      obtain ⟨d', hd', rfl⟩ := map_take _ _ _ _ hx
      rw [hd'] at hd
      cases hd
      have hix : atI (Str.ofString "abcdefgh").cps.toList (m : Int) = some (97 + m) := by
        rw [abc]
        refine atI_nat (j := m) ?_
        rcases hm34 with rfl | rfl <;> rfl
      refine ⟨rfl, _, rfl, _, _, 97 + m, rfl, rfl, by rw [abc]; decide, hix, _, rfl, 97 + m, S (codeT d), rfl, rfl, _, rfl, ?_⟩
      by_cases h : 97 + m ∉ codeT d
      · have e : (!decide (97 + m ∈ (S (codeT d)).cps.toList)) = true := by
          rw [Bool.not_eq_true', decide_eq_false_iff_not]
          exact h
        rw [e]
        exact iteT ⟨_, rfl, qy _ _ (if_pos h) (Same.refl _)⟩
      · have e : (!decide (97 + m ∈ (S (codeT d)).cps.toList)) = false := by
          rw [Bool.not_eq_false', decide_eq_true_eq]
          exact Classical.not_not.mp h
        rw [e]
        exact iteF (qn _ (if_neg h) (Same.refl _))
    rw [fm_if (fun d => 97 + m ∉ codeT d)] at h3
    have h3' : H3 D = some (.lst ((kept m).map fun d => vS (codeT d))) := h3
    have f3 := (f1.same s2).same s3
    have b3 : But fd H H3 := b1.trans (But.of (s2.trans s3))
    have hpl3 := (s2.trans s3) _ _ hpl
    have kne : kept m ≠ [] := by
      rcases hm34 with rfl | rfl
      · exact kept_3
      · exact kept_4
    have kl1 : 1 ≤ (kept m).length := by
      cases hk : kept m with
      | nil => exact absurd hk kne
      | cons a l => exact Nat.succ_pos _
    have kl2 : (kept m).length ≤ 23 := by
      have : (kept m).length ≤ codesD.length := List.length_filter_le _ _
      exact this
    refine ⟨_, rfl, _, rfl, fd, cl, D, cs, _, rfl, f3, SqL.of h3', by rw [List.length_map]; exact kl1, by rw [List.length_map]; omega, fun H4 x b4 f4 hx => ?_⟩
    obtain ⟨d, hdk, rfl⟩ := List.mem_map.mp hx
    obtain ⟨hd, hdi⟩ := kept_ix hm34 hdk
    have gd := codes_ok hd
    have few := gd.few
    have dw := gd.w
    have hpl4 := b4 _ _ (lst f3 hpl3) hpl3
    refine ⟨_, rfl, d, pl, z, rfl, hd, hpl4, pz, fun H5 t r s5 ht hr => ⟨t, _, rfl, SqT.of ht, rfl, _, _, rfl, _, _, rfl, rfl, ?_⟩⟩
    have rin := rows_in pz hm34 hdk
    have rmem : ∀ r, r ∈ K27.sdL (rowsN z d) ↔ r ∈ rowsN z d := fun r => K27.mem_sdG r _
    have rl9 : (K27.sdL (rowsN z d)).length ≤ 9 := by
      have h1 : (K27.sdL (rowsN z d)).length ≤ (rowsN z d).length := K27.sdG_len _
      unfold rowsN at h1 ⊢
      rw [List.length_map] at h1
      omega
    have ro : RowsOk z m d.1 (K27.sdL (rowsN z d)) 9 := by
      refine ⟨fun e => ?_, rl9, fun r h => rin r ((rmem r).mp h)⟩
      obtain ⟨x, hx⟩ := List.exists_mem_of_ne_nil _ gd.ne
      have := (rmem _).mpr (List.mem_map.mpr ⟨x, hx, rfl⟩)
      rw [e] at this
      cases this
    refine ⟨_, rfl, _, rfl, two, fun tt htt => ?_⟩
    have stt := same_upd (o := .tup [V.int ((d.1 : Nat) : Int), .ref r]) htt
    refine ⟨tt, ⟨d.1, K27.sdL (rowsN z d)⟩, rfl, ⟨r, SqT.of upd_same, SqT.of (stt _ _ hr)⟩, ?_, fun H6 lt s6 _ hlt => ?_⟩
    · have h1 := flat_most (n := 4) (l := K27.sdL (rowsN z d)) fun r h => by
        have := (rin r ((rmem r).mp h)).1
        omega
      show (K27.sdL (rowsN z d)).flatten.length ≤ 2000
      omega
    have s56 := s5.trans (stt.trans s6)
    have f6 := f4.same s56
    have b6 : But fd H H6 := (b3.trans b4).trans (But.of s56)
    have hpl6 := s56 _ _ hpl4
    have hr6 := (stt.trans s6) _ _ hr
    have lin : ∀ c ∈ (K27.Grid.mk d.1 (K27.sdL (rowsN z d))).let_, c ∈ z.take m := fun c hc => by
      obtain ⟨r, h1, h2⟩ := List.mem_flatten.mp ((K27.mem_sdG c _).mp hc)
      exact (rin r ((rmem r).mp h1)).2 c h2
    have lne : 1 ≤ (K27.Grid.mk d.1 (K27.sdL (rowsN z d))).let_.length := by
      obtain ⟨r, h⟩ := List.exists_mem_of_ne_nil _ ro.ne
      have hl := (ro.row r h).1
      cases r with
      | nil => simp at hl
      | cons c t =>
        have : c ∈ (K27.Grid.mk d.1 (K27.sdL (rowsN z d))).let_ := (K27.mem_sdG c _).mpr (List.mem_flatten.mpr ⟨_, h, List.mem_cons_self⟩)
        exact List.length_pos_of_mem this
    have lle : (K27.Grid.mk d.1 (K27.sdL (rowsN z d))).let_.length ≤ 8 := by
      have := K27.sub_len (K27.asc_nodup K27.linN K27.let_asc) lin
      rw [List.length_take] at this
      omega
    -- a new table, now and then
    refine ⟨fun σ' H' => ∃ (wd : Nat) (rs : List (List Nat)) (rp lt : Addr) (ls : List Nat), σ' = [some (.ref fd), some (.int (m : Int)), some (.ref pl), some (.ref D), some (.ref lt), some (.ref rp), some (.int (wd : Int)), none, none] ∧ But fd H H' ∧ FeedAt K H' fd cl cs ∧ H' lt = some (.lst (encO ls)) ∧
      1 ≤ ls.length ∧ ls.length ≤ 8 ∧ (∀ c ∈ ls, c ∈ z.take m) ∧ (SqL K H' rp (rs.map vS) ∨ SqT K H' rp (rs.map vS)) ∧ RowsOk z m wd rs 9 ∧ (wd = 2 ∨ wd = 3), ?_, ?_⟩
    · refine ⟨_, rfl, fd, cl, cs, 3, rfl, f6, by decide, by decide, fun H7 r7 b7 f7 hr7 => ⟨rfl, _, rfl, ?_⟩⟩
      refine ite2 (fun _ => ?_) fun _ => ?_
      · refine ⟨_, rfl, fd, cl, cs, 2, rfl, f7, by decide, by decide, fun H8 r8 b8 f8 hr8 => ⟨_, _, rfl, rfl, ?_⟩⟩
        refine ⟨_, rfl, _, rfl, _, rfl, fd, cl, cs, m, rfl, f8, by omega, by omega, fun H9 r9 b9 f9 hr9 => ⟨_, _, rfl, rfl, _, rfl, pl, encO z, rfl, ?_, fun lt2 hlt2 => ?_⟩⟩
        · have hpl9 := b9 _ _ (lst f8 (b8 _ _ (lst f7 (b7 _ _ (lst f6 hpl6) hpl6)) (b7 _ _ (lst f6 hpl6) hpl6))) (b8 _ _ (lst f7 (b7 _ _ (lst f6 hpl6) hpl6)) (b7 _ _ (lst f6 hpl6) hpl6))
          exact SqL.of hpl9
        have ecut : cutV (encO z) none (some (1 + (r9 : Int))) = encO (z.take (1 + r9)) := by
          unfold cutV
          have e1 : HT.sIx (encO z).length (encO z).length (some (1 + (r9 : Int))) = min (1 + r9) (encO z).length := by
            have := HT.sIx_nat (encO z).length (encO z).length (1 + r9)
            rw [← this]
            congr 1
          have el : (encO z).length = 8 := by rw [List.length_map, pz.len]
          rw [e1, HT.sIx_none, List.drop_zero, Nat.sub_zero, el, Nat.min_eq_left (by omega)]
          exact (List.map_take ..).symm
        rw [ecut]
        have tl : (z.take (1 + r9)).length = 1 + r9 := by
          rw [List.length_take, pz.len]
          omega
        have s9 := same_upd (o := .lst (encO (z.take (1 + r9)))) hlt2
        have hlt9 : L2.upd H9 lt2 (.lst (encO (z.take (1 + r9)))) lt2 = some (.lst (encO (z.take (1 + r9)))) := upd_same
        have f9' := f9.same s9
        have lfd := lst f9' hlt9
        refine ⟨_, rfl, fd, cl, cs, 8, rfl, f9', by decide, by decide, fun H10 r10 b10 f10 hr10 => ⟨_, _, rfl, rfl, _, rfl, by omega, by omega, fun D2 hD2 => ?_⟩⟩
        have en : (1 + (r10 : Int)).toNat = 1 + r10 := by omega
        rw [en]
        have ew : (2 + (r8 : Int)) = ((2 + r8 : Nat) : Int) := by omega
        have go := rows_go (K := K) (H1 := H10) (D := D2) (wd := 2 + r8) (n := 1 + r10) (x1 := some (.int (m : Int))) (x2 := some (.ref pl)) (x3 := some (.ref D)) (x5 := some (.ref r)) (x7 := none) (x8 := none) (ls := z.take (1 + r9)) f10 (b10 _ _ lfd hlt9) (by omega) (by omega) (by omega) (by omega) hD2
          (Qd := fun H' => ∃ (wd : Nat) (rs : List (List Nat)) (rp lt : Addr) (ls : List Nat), ([some (.ref fd), some (.int (m : Int)), some (.ref pl), some (.ref D), some (.ref lt2), some (.ref D2), some (.int (2 + (r8 : Int))), none, none] : L2.St) = [some (.ref fd), some (.int (m : Int)), some (.ref pl), some (.ref D), some (.ref lt), some (.ref rp), some (.int (wd : Int)), none, none] ∧ But fd H H' ∧ FeedAt K H' fd cl cs ∧ H' lt = some (.lst (encO ls)) ∧
            1 ≤ ls.length ∧ ls.length ≤ 8 ∧ (∀ c ∈ ls, c ∈ z.take m) ∧ (SqL K H' rp (rs.map vS) ∨ SqT K H' rp (rs.map vS)) ∧ RowsOk z m wd rs 9 ∧ (wd = 2 ∨ wd = 3))
          (fun H11 rs b11 f11 hrs rl rm => by
            have bt : But fd H H11 := ((((b6.trans b7).trans b8).trans b9).trans (But.of s9)).trans (b10.trans b11)
            refine ⟨2 + r8, rs, D2, lt2, z.take (1 + r9), by rw [ew], bt, f11, b11 _ _ lfd (b10 _ _ lfd hlt9), by omega, by omega, fun c hc => ?_, .inl (SqL.of hrs), ⟨fun e => by rw [e] at rl; simp at rl; omega, by omega, fun r hr => ⟨(rm r hr).1, fun c hc => ?_⟩⟩, by omega⟩
            · exact List.mem_of_mem_take (i := 1 + r9) (by rw [List.take_take, Nat.min_eq_left (by omega)]; exact hc)
            · exact List.mem_of_mem_take (i := 1 + r9) (by rw [List.take_take, Nat.min_eq_left (by omega)]; exact (rm r hr).2 c hc))
        rw [← ew] at go
        exact go
      · refine ⟨d.1, K27.sdL (rowsN z d), r, lt, _, rfl, b6.trans b7, f7, b7 _ _ (lst f6 hlt) hlt, lne, lle, lin, .inr (SqT.of (b7 _ _ (fun e => ?_) hr6)), ro, dw⟩
        obtain ⟨kvs, hk⟩ := fdk f6
        rw [e, hk] at hr6
        cases hr6
    · rintro σ' H7 ⟨wd, rs, rp, lt, ls, rfl, b7, f7, hlt, l1, l2, lin, hrp, ro, w23⟩
      obtain ⟨kv7, hk7⟩ := fdk f7
      refine ⟨_, rfl, rp, _, rfl, hrp, fun l hl => ⟨_, rfl, five, fun l5 hl5 => ?_⟩⟩
      have sl := same_upd (o := .lst (rs.map vS)) hl
      have sl5 := same_upd (o := .lst [V.int 0, .int 0, .int 0, .int 1, .int 2]) hl5
      have f7' := (f7.same sl).same sl5
      have b7' : But fd H _ := b7.trans (But.of (sl.trans sl5))
      have hlt7 := sl5 _ _ (sl _ _ hlt)
      have hl7 := sl5 _ _ (upd_same (H := H7) (a := l) (o := HO.lst (rs.map vS)))
      refine ⟨fd, cl, l5, cs, _, rfl, f7', SqL.of upd_same, Nat.le_of_ble_eq_true rfl, Nat.le_of_ble_eq_true rfl, fun H8 x b8 f8 hx => ?_⟩
      obtain ⟨k, hk, rfl⟩ : ∃ k : Nat, k ≤ 2 ∧ x = .int (k : Int) := by
        simp only [List.mem_cons, List.not_mem_nil, or_false] at hx
        rcases hx with rfl | rfl | rfl | rfl | rfl
        · exact ⟨0, by decide, rfl⟩
        · exact ⟨0, by decide, rfl⟩
        · exact ⟨0, by decide, rfl⟩
        · exact ⟨1, by decide, rfl⟩
        · exact ⟨2, by decide, rfl⟩
      have hlt8 := b8 _ _ (lst f7' hlt7) hlt7
      have hl8 := b8 _ _ (lst f7' hl7) hl7
      refine ⟨(k : Int), rfl, by omega, by omega, fun D3 hD3 => ?_⟩
      have en : ((k : Nat) : Int).toNat = k := Int.toNat_natCast k
      rw [en]
      refine rows_go (K := K) f8 hlt8 l1 (by omega) (by omega) (by omega) hD3 fun H9 rs2 b9 f9 hrs2 rl2 rm2 => ?_
      have hl9 := b9 _ _ (lst f8 hl8) hl8
      have rl := ro.len
      refine ⟨l, D3, _, _, rfl, rfl, hl9, hrs2, ?_, fun p hp => ?_⟩
      · rw [List.length_map, List.length_map]
        exact Nat.le_of_lt (small24 (by omega))
      have sp := same_upd (o := .lst (rs.map vS ++ rs2.map vS)) hp
      have hp0 : H p = none := by
        cases hh : H p with
        | none => rfl
        | some o =>
          obtain ⟨k9, hk9⟩ := fdk f9
          have nf : p ≠ fd := fun e => by
            rw [e, hk9] at hp
            cases hp
          have := (b7'.trans (b8.trans b9)) p o nf hh
          rw [hp] at this
          cases this
      have f10 := f9.same sp
      have b10 : But fd H _ := (b7'.trans (b8.trans b9)).trans (But.of sp)
      have hp10 : L2.upd H9 p (.lst (rs.map vS ++ rs2.map vS)) p = some (.lst ((rs ++ rs2).map vS)) := by
        rw [upd_same, List.map_append]
      have ro2 : RowsOk z m wd (rs ++ rs2) 11 := by
        refine ⟨fun e => ro.ne (List.append_eq_nil_iff.mp e).1, by rw [List.length_append]; omega, fun r hr => ?_⟩
        rcases List.mem_append.mp hr with hr | hr
        · exact ro.row r hr
        · exact ⟨(rm2 r hr).1, fun c hc => lin c ((rm2 r hr).2 c hc)⟩
      generalize rs ++ rs2 = rs3 at *
      generalize L2.upd H9 p (.lst (rs.map vS ++ rs2.map vS)) = H10 at *
      refine ⟨fun σ' H' => ∃ rs4 : List (List Nat), σ' = [some (.ref fd), some (.int (m : Int)), some (.ref pl), some (.ref D), some (.ref lt), some (.ref p), some (.int (wd : Int)), none, none] ∧ But fd H H' ∧ FeedAt K H' fd cl cs ∧ H' p = some (.lst (rs4.map vS)) ∧ RowsOk z m wd rs4 11, ?_, ?_⟩
      · have r3l := ro2.len
        refine ⟨_, rfl, p, _, rfl, .inl (SqL.of hp10), _, _, rfl, rfl, _, rfl, ?_⟩
        refine ite2 (fun hgt => ?_) fun _ => iteF ⟨rs3, rfl, b10, f10, hp10, ro2⟩
        have hgt' : 1 < rs3.length := by
          have := of_decide_eq_true hgt
          rw [List.length_map] at this
          omega
        refine ⟨_, rfl, fd, cl, cs, 4, rfl, f10, by decide, by decide, fun H11 r11 b11 f11 hr11 => ⟨rfl, _, rfl, ?_⟩⟩
        have hp11 := b11 _ _ (lst f10 hp10) hp10
        refine ite2 (fun _ => ?_) fun _ => ⟨rs3, rfl, b10.trans b11, f11, hp11, ro2⟩
        refine ⟨_, rfl, .inl ⟨rfl, _, SqL.of hp11⟩, _, rfl, _, rfl, p, _, rfl, .inl (SqL.of hp11), fd, cl, cs, (rs3.map vS).length, rfl, f11, by rw [List.length_map]; omega, by rw [List.length_map]; omega, fun H12 r12 b12 f12 hr12 => ?_⟩
        have hp12 := b12 _ _ (lst f11 hp11) hp11
        obtain ⟨j, hj1, hj2, hj3, _, _⟩ := atI_get (atI_nat (List.getElem?_eq_getElem hr12))
        have rlen : r12 < rs3.length := by
          rw [List.length_map] at hr12
          exact hr12
        refine ⟨p, _, (r12 : Int), j, _, rfl, rfl, hp12, by omega, by omega, hj1, hj2, ?_⟩
        rw [map_erase]
        have pfd := lst f12 hp12
        have jl : j < rs3.length := by
          rw [List.length_map] at hj3
          exact hj3
        have btn : But fd H (L2.upd H12 p (.lst ((rs3.eraseIdx j).map vS))) := fun b o hb e => by
          rw [upd_ne (ne_of_none e hp0)]
          exact ((b10.trans b11).trans b12) b o hb e
        obtain ⟨k12, h121, h122, h123, h124⟩ := f12.ex
        obtain ⟨k0, g10, g20, g30, g40⟩ := hf.ex
        have el : (rs3.eraseIdx j).length = rs3.length - 1 := List.length_eraseIdx_of_lt jl
        refine ⟨rs3.eraseIdx j, rfl, btn, ⟨k12, by rw [upd_ne (Ne.symm pfd)]; exact h121, h122, btn.seq g10 g30, h124⟩, upd_same, fun e => ?_, by omega, fun r hr => ro2.row r (List.mem_of_mem_eraseIdx hr)⟩
        rw [e] at el
        simp at el
        omega
      · rintro σ' H11 ⟨rs4, rfl, b11, f11, hp11, ro4⟩
        have r4l := ro4.len
        refine ⟨_, rfl, _, rfl, ?_⟩
        refine ss_go (zs := rs4.map S) (.inr ⟨p, rfl, SqL.of (by rw [hp11, map_vS])⟩) (by rw [List.length_map]; omega) fun p2 H12 s12 hp2 h12 => ?_
        rw [sortT_S, ← map_vS] at h12
        refine ⟨p2, _, rfl, .inl ⟨SqL.of h12, fun r hr => ⟨two, fun t ht => ?_⟩⟩⟩
        have sr := same_upd (o := .tup ((K27.sdL rs4).map vS)) hr
        have st := same_upd (o := .tup [V.int ((wd : Nat) : Int), .ref r]) ht
        exact q _ t ⟨wd, K27.sdL rs4⟩ (b11.trans (But.of (s12.trans (sr.trans st)))) (f11.same (s12.trans (sr.trans st))) ⟨r, SqT.of upd_same, SqT.of (st _ _ upd_same)⟩ (good_of ro4.ne (by omega) ro4.row pz (by omega) w23)
end
end K27W
/-! K27: the law. -/
namespace K27W
open PySem PySem.Spec PyProof.Rows L2 K27R
/-! ### data that repr shows -/
structure Nice (d : PyData) (n k : Nat) : Prop where
  can : d.canLay0 = true
  dep : d.depth ≤ k
  wt : d.weight ≤ n
  sh : d.intsShort 13 = true
  ok : d.showable = true
structure NiceA (ds : List PyData) (n k : Nat) : Prop where
  can : PyData.canLayAll0 ds = true
  dep : PyData.depthAll ds ≤ k
  wt : PyData.weightAll ds ≤ n
  sh : PyData.intsShortAll 13 ds = true
  ok : PyData.showableAll ds = true
theorem Nice.mono {d : PyData} {n m k j : Nat} (h : Nice d n k) (hn : n ≤ m) (hk : k ≤ j) : Nice d m j := ⟨h.can, Nat.le_trans h.dep hk, Nat.le_trans h.wt hn, h.sh, h.ok⟩
theorem Nice.str {l : List Nat} (h : PyData.strOk (S l) = true) : Nice (.str (S l)) l.length 0 := by
  refine ⟨by simpa [PyData.canLay0] using h, by simp [PyData.depth], ?_, by simp [PyData.intsShort], by simp [PyData.showable]⟩
  show (S l).cps.size ≤ _
  simp
theorem NiceA.nil {k : Nat} : NiceA [] 0 k := ⟨rfl, Nat.zero_le _, Nat.le_refl _, rfl, rfl⟩
theorem NiceA.cons {d : PyData} {ds : List PyData} {n m k : Nat} (h : Nice d n k) (h' : NiceA ds m k) : NiceA (d :: ds) (n + 1 + m) k := by
  refine ⟨?_, ?_, ?_, ?_, ?_⟩
  · simp [PyData.canLayAll0, h.can, h'.can]
  · have h1 := h.dep
    have h2 := h'.dep
    simp only [PyData.depthAll]
    omega
  · have h1 := h.wt
    have h2 := h'.wt
    simp only [PyData.weightAll]
    omega
  · simp [PyData.intsShortAll, h.sh, h'.sh]
  · simp [PyData.showableAll, h.ok, h'.ok]
theorem NiceA.map {α : Type} {f : α → PyData} {n k : Nat} : ∀ {l : List α}, (∀ a ∈ l, Nice (f a) n k) → NiceA (l.map f) (l.length * (n + 1)) k
  | [], _ => by
    rw [List.length_nil, Nat.zero_mul]
    exact .nil
  | a :: l, h => by
    have h1 := NiceA.cons (h a List.mem_cons_self) (NiceA.map (l := l) fun x hx => h x (List.mem_cons_of_mem _ hx))
    rw [List.map_cons, List.length_cons, Nat.succ_mul, Nat.add_comm]
    exact h1
theorem Nice.tup {ds : List PyData} {n k : Nat} (h : NiceA ds n k) : Nice (.tuple ds) n (k + 1) :=
  ⟨by simpa [PyData.canLay0] using h.can, by simpa [PyData.depth] using h.dep, by simpa [PyData.weight] using h.wt, by simpa [PyData.intsShort] using h.sh, by simpa [PyData.showable] using h.ok⟩
theorem Nice.lst {ds : List PyData} {n k : Nat} (h : NiceA ds n k) : Nice (.list ds) n (k + 1) :=
  ⟨by simpa [PyData.canLay0] using h.can, by simpa [PyData.depth] using h.dep, by simpa [PyData.weight] using h.wt, by simpa [PyData.intsShort] using h.sh, by simpa [PyData.showable] using h.ok⟩
theorem Nice.long {d : PyData} {n k : Nat} (h : Nice d n k) (hn : n ≤ 1000000) (hk : k ≤ 10) : d.shown.length ≤ sizeLine := by
  have lay : PyData.layable0 d = true := by
    have h1 := h.dep
    have h2 := h.wt
    have e : (2 : Nat) ^ 20 = 1048576 := by decide
    unfold PyData.layable0
    rw [Bool.and_eq_true, Bool.and_eq_true, decide_eq_true_eq, decide_eq_true_eq]
    exact ⟨⟨h.can, by omega⟩, by omega⟩
  have := PyProof.Rows.shown_le13 lay h.sh
  exact Nat.le_of_lt (small24 (by omega))
theorem repr_ok {A : Around} {d : PyData} {n k : Nat} (h : Nice d n k) (hn : n ≤ 1000000) (hk : k ≤ 10) (hu : A.units + 64 < cLine) : d.showable = true ∧ d.hasDict = false ∧ d.shown.length ≤ sizeLine ∧ A.units + (d.depth + 1) < cLine :=
  ⟨h.ok, PyData.hasDict_of_canLay d h.can, h.long hn hk, by have := h.dep; omega⟩
def dR (R : List (List Nat × List Nat)) : PyData := .tuple (R.map fun p => .tuple [.str (S p.1), .str (S p.2)])
def dG (g : K27.Grid) : PyData := .tuple [.int ((g.w : Nat) : Int), .tuple (g.rows.map fun r => .str (S r))]
theorem dpAll_strs {K : PySem.W.Frag} {H : Hp} : ∀ l : List (List Nat), DpAll K H (l.map vS) (l.map fun r => .str (S r))
  | [] => .nil
  | r :: l => .cons (.str _) (dpAll_strs l)
theorem grid_dp {K : PySem.W.Frag} {H : Hp} {t : Addr} {g : K27.Grid} (h : GridAt K H t g) : Dp K H (.ref t) (dG g) :=
  let ⟨_, h1, h2⟩ := h.ex
  .tup h1 (.cons (.int _) (.cons (.tup h2 (dpAll_strs _)) .nil))
theorem dpAll_at {K : PySem.W.Frag} {H : Hp} {α : Type} {f : α → PyData} : ∀ {l : List α} {vs : List V}, vs.length = l.length → (∀ (i : Nat) a v, l[i]? = some a → vs[i]? = some v → Dp K H v (f a)) → DpAll K H vs (l.map f)
  | [], [], _, _ => .nil
  | a :: l, v :: vs, h, k => .cons (k 0 a v rfl rfl) (dpAll_at (by simpa using h) fun i b u h1 h2 => k (i + 1) b u h1 h2)
  | [], _ :: _, h, _ => by simp at h
  | _ :: _, [], h, _ => by simp at h
theorem pairs_dp {K : PySem.W.Frag} {H : Hp} {p : Addr} {R : List (List Nat × List Nat)} (h : PairsAt H p R) : Dp K H (.ref p) (dR R) := by
  obtain ⟨rs, h1, h2, h3⟩ := h.ex
  refine .tup (SqT.of h1) (dpAll_at h2 fun i a v ha hv => ?_)
  obtain ⟨q, g1, g2⟩ := h3 i a.1 a.2 ha
  rw [hv] at g1
  cases g1
  exact .tup (SqT.of g2) (.cons (.str _) (.cons (.str _) .nil))
theorem grid_nice {g : K27.Grid} (ok : Good g) : Nice (dG g) 200 2 := by
  have w23 := ok.ok.w23
  have h1 : Nice (.tuple (g.rows.map fun r => .str (S r))) (g.rows.length * (4 + 1)) 1 := .tup (.map fun r hr => (Nice.str (low_ok (ok.low r hr))).mono (by have := ok.ok.len r hr; omega) (Nat.le_refl _))
  have h2 : Nice (.int ((g.w : Nat) : Int)) 5 1 := by
    rcases w23 with e | e <;> rw [e] <;> exact ⟨rfl, by decide, by decide, by decide +kernel, by decide +kernel⟩
  have most := ok.most
  exact (Nice.tup (.cons h2 (.cons h1 .nil))).mono (by omega) (Nat.le_refl _)
theorem sgn_ok {s : List Nat} (h : K27.Sgn s) : PyData.strOk (S s) = true := by
  unfold PyData.strOk
  rw [← Array.all_toList, List.all_eq_true]
  intro c hc
  rcases h c hc with rfl | rfl <;> decide
theorem res_short {g : K27.Grid} (ok : Good g) {kv : K27.KV} (I : K27.Inv g kv) (h0 : K27.mu g kv = 0) {R : List (List Nat × List Nat)} (h : IsRes g R) : ∀ l s, (l, s) ∈ R → s.length ≤ 9841 := fun l s hm =>
  I.short ok.ok ((K27.final I h0 l s).mpr ((h.iff_ l s).mp hm))
theorem res_nice {g : K27.Grid} (ok : Good g) {R : List (List Nat × List Nat)} (h : IsRes g R) (hs : ∀ l s, (l, s) ∈ R → s.length ≤ 9841) : Nice (dR R) 100000 2 := by
  have rl := res_len ok h
  have h1 : Nice (dR R) (R.length * (9850 + 1)) 2 := by
    refine .tup (.map fun p hp => ?_)
    have hm := (h.iff_ p.1 p.2).mp hp
    have l4 := K27.Der_let_len ok.ok hm.1
    have s9 := hs p.1 p.2 hp
    have n1 : Nice (.str (S p.1)) 4 0 := (Nice.str (low_ok (der_low ok hm.1))).mono l4 (Nat.le_refl _)
    have n2 : Nice (.str (S p.2)) 9841 0 := (Nice.str (sgn_ok hm.1.sgn)).mono s9 (Nat.le_refl _)
    exact (Nice.tup (.cons n1 (.cons n2 .nil))).mono (by omega) (Nat.le_refl _)
  exact h1.mono (by omega) (Nat.le_refl _)
section
variable {X : Cx} {x y : Str} {k j : Nat} {sp : Sp} {p pos : Pos} {kws : List Keyword} {tk : TA}
theorem pe_kc (c : CalK X.prog X.w X.K X.mg X.base k x y sp) (hr : Room j X.A) (hk : k ≤ j) (args : PK X kws tk) (hg : Gl X x := by rfl) (named : (backToKw pos (keywordEach kws X.env)).all (·.1.isSome) = true := by rfl)
    (names : (backToKw pos (keywordEach kws X.env)).filterMap (·.1) = [y] := by rfl) (hdb : (x == ("__debug__" : Str)) = false := by decide) (plain : ((backTo pos (starEach [] X.env)).any (·.1) || (backToKw pos (keywordEach kws X.env)).any (·.1.isNone)) = false := by rfl) :
    PE X (.Call (.Name x p) [] kws pos) (fun σ H Q => tk σ H fun zs H2 => sp ([] ++ zs) H2 Q E0) := by
  obtain ⟨f, fd, F, hm, kp, b⟩ := c.ex
  exact K27R.pe_kw F (hr.mono hk) hg hm kp b pass0 args named names hdb plain
end
abbrev nlaw : List Str := ["_law_script", "_law_feed_here", "_law_lap", "_law_grid_here", "_law_due", "_law_told", "_law_found", "_law_was", "_law_group"]
theorem sclaw : FnScope nlaw ["_law_script"] (defScope (top 33)) := ⟨rfl, rfl, rfl, by decide +kernel, rfl, by decide +kernel, by decide +kernel⟩
def spLaw (K : PySem.W.Frag) : Sp := fun vs H Q _ => ∃ (a : Addr) (ns : List Int), vs = [.ref a] ∧ SqL K H a (ns.map V.int) ∧ ns.length ≤ 1000 ∧ ∀ H', Q (.bl true) H'
section
variable {P : Program} {w : World} {K : PySem.W.Frag} {mg : Str → Option Value} {base : Heap}
theorem law_walk {f : Addr} (B : Free mg) (C_feed : Cal P w K mg base 1 "_law_feed" (spFeed K)) (C_grid : Cal P w K mg base 4 "_law_grid" (spGrid K)) (C_shapes : Cal P w K mg base 3 "_law_shapes" (spShs K)) (C_all_tops : Cal P w K mg base 5 "all_tops" (spAll K)) (CK_all_tops : CalK P w K mg base 5 "all_tops" "table" (spAll K))
    (C_are_closed : Cal P w K mg base 5 "_law_are_closed" (spClo K)) (cdv : Value) (outer : List Env) (s : Shared) (H : Hp) (vs : List V) (Q : VK) (E : XK) (hr : Room 5 (callerA.deeper (envOfC "law" (defScope (top 33)) s.heap.objs.size f cdv))) (h : spLaw K vs H Q E) :
    ∃ t, PSs (cxOf CX0 P w K mg base nlaw "law" (defScope (top 33)) f cdv callerA outer s H E).nox (defBody (top 33)) t ∧ t { nx := fun _ H' => Q .non H', rt := Q } (start nlaw vs) H := by
  obtain ⟨a, ns, rfl, hS, hn, q⟩ := h
  have shows : (callerA.deeper (envOfC "law" (defScope (top 33)) s.heap.objs.size f cdv)).guards = some [] := rfl
  · have nd := sclaw.nd
    have hu := hu_of hr
    refine ⟨_, pss_cons (ps_set (i := 1) nd rfl (Or.inl rfl) (pe_c C_feed hr (by decide) (pa_cons (pv 0) pa_nil)))
      (pss_cons (ps_for PassesOwn.never rfl (pi_range1 (by rfl) B.range (pa_cons pe_int pa_nil)) (pg_name (i := 2) nd rfl (Or.inl rfl)) (pss_cons (ps_set (i := 3) nd rfl (Or.inl rfl) (pe_c C_grid hr (by decide) (pa_cons (pv 1) (pa_cons (pe_op op_add pe_int (pv 2)) pa_nil))))
        (pss_cons (ps_asg (pe_tup (pa_cons (pe_c C_shapes hr (by decide) (pa_cons (pv 3) pa_nil)) (pa_cons (pe_callB (call_reprD shows) (by rfl) B.repr (by decide +kernel) (pa_cons (pv 3) pa_nil)) pa_nil))) (pg_tupK K (by rfl) (pgs_cons (pg_name (i := 6) nd rfl (Or.inr rfl)) (pgs_cons (pg_name (i := 7) nd rfl (Or.inl rfl)) pgs_nil))))
        (pss_cons (ps_set (i := 4) nd rfl (Or.inl rfl) (pe_callTy (tuple_ofK K) (by rfl) B.tuple (by decide +kernel) (pa_cons (pe_lc (own := [("_law_group", 8)]) (g := gName 8) (by rfl) nd (pi_listK K (pe_ss B rfl (pe_callTy (call_listD rfl) (by rfl) B.list (by decide +kernel) (pa_cons (pv 6) pa_nil)))) (blkOk_by (own := [("_law_group", 8)]) (N := nlaw) (sc := defScope (top 33)) (by decide +kernel)) (fun _ _ _ _ _ => pg_name (i := 8) nd rfl (Or.inl rfl)) (fun _ _ _ _ _ => pts_nil) (fun _ _ _ _ _ => pe_tup (pa_cons (pv 8) (pa_cons (pe_dget hu (pv 6) (pv 8) (fun _ _ => rfl)) pa_nil)))) pa_nil)))
        (pss_cons (ps_set (i := 5) nd rfl (Or.inl rfl) (pe_lst (pa_cons (pe_c C_all_tops hr (by decide) (pa_cons (pv 3) pa_nil)) (pa_cons (pe_kc CK_all_tops hr (by decide) (pk_cons (pv 3) pk_nil)) pa_nil))))
        (pss_cons (ps_if (pt_cmpR op_ne (pe_callB (call_reprD shows) (by rfl) B.repr (by decide +kernel) (pa_cons (pv 5) pa_nil)) (pe_callB (call_reprD shows) (by rfl) B.repr (by decide +kernel) (pa_cons (pe_lst (pa_cons (pv 4) (pa_cons (pv 4) pa_nil))) pa_nil)) (nomark _)) (pss_one (ps_ret pe_bl)) pss_nil)
        (pss_cons (ps_if (pt_cmpR op_ne (pe_callB (call_reprD shows) (by rfl) B.repr (by decide +kernel) (pa_cons (pv 3) pa_nil)) (pv 7) (nomark _)) (pss_one (ps_ret pe_bl)) pss_nil)
        (pss_one (ps_if (pt_not (pt_val (pe_c C_are_closed hr (by decide) (pa_cons (pv 3) (pa_cons (pe_ix (ix_listK K) (pv 5) pe_int (fun _ _ => rfl)) pa_nil))))) (pss_one (ps_ret pe_bl)) pss_nil)))))))))
      (pss_one (ps_ret pe_bl))), ?_⟩
    have two : 2 ≤ sizeLine := by decide
    refine ⟨_, rfl, a, ns, rfl, hS, hn, fun H1 fd cl cs s1 f1 => ?_⟩
    refine ⟨2, rfl, by decide, by decide, ?_⟩
    refine for_it (walk_range (lo := 0) (n := 2)) (fun i σ H' => ∃ x2 x3 x4 x5 x6 x7 : Option V, σ = [some (.ref a), some (.ref fd), x2, x3, x4, x5, x6, x7, none] ∧ FeedAt K H' fd cl cs)
      ⟨none, none, none, none, none, none, rfl, f1⟩ (fun _ _ _ _ _ => trivial) (fun i x σ H2 H2' hi pv y => ?_) fun σ H2 pv => q _
    obtain ⟨x2, x3, x4, x5, x6, x7, rfl, f2⟩ := pv
    obtain ⟨rfl, rfl⟩ := y
    have ei : (3 : Int) + (0 + (i : Nat)) = ((3 + i : Nat) : Int) := by omega
    refine ⟨_, rfl, _, rfl, _, _, rfl, rfl, fd, cl, cs, 3 + i, by show [V.ref fd, V.int (3 + (0 + (i : Int)))] = _; rw [ei], f2, by omega, fun H3 t g b3 f3 hg ok => ?_⟩
    have hgd := fun {H : Hp} (h : GridAt K H t g) => grid_dp h
    refine ⟨_, rfl, t, g, rfl, hg, ok, fun H4 kn kv s4 hk I h0 => ⟨_, rfl, ?_⟩⟩
    obtain ⟨g1, g2, g3, g4⟩ := repr_ok (grid_nice ok) (by decide) (by decide) hr.units
    refine ⟨t, dG g, rfl, hgd (hg.same s4), g1, g2, g3, g4, ?_⟩
    refine ⟨two, fun tq htq => ⟨tq, _, rfl, SqT.of upd_same, rfl, _, _, rfl, _, _, rfl, rfl, ?_⟩⟩
    have sq := same_upd (o := .tup [V.ref kn, .str (dG g).shown]) htq
    have hk5 := sq _ _ hk
    have s35 := s4.trans sq
    generalize L2.upd H4 tq (.tup [V.ref kn, .str (dG g).shown]) = H5 at *
    have kl := I.len ok.ok
    have hkeys : ((kvm kv).map fun kv => kV kv.1) = ((kv.map (·.1)).map S).map V.str := by
      unfold kvm
      rw [List.map_map, List.map_map, List.map_map]
      rfl
    refine ⟨_, rfl, kn, kvm kv, rfl, .inl hk5, fun l hl => ?_⟩
    refine ss_go (zs := (kv.map (·.1)).map S) (.inr ⟨l, rfl, SqL.of (by rw [upd_same, hkeys])⟩) (by rw [List.length_map, List.length_map]; omega) fun sp H6 s6 hsp hHs => ?_
    rw [sortT_S, ← map_vS] at hHs
    have kl2 : (K27.sdL (kv.map (·.1))).length ≤ 9 := by
      have h1 : (K27.sdL (kv.map (·.1))).length ≤ (kv.map (·.1)).length := K27.sdG_len _
      rw [List.length_map] at h1
      omega
    have s56 := (same_upd hl).trans s6
    refine ⟨sp, rfl, ⟨_, SqL.of hHs⟩, fun D hD => ?_⟩
    refine lc_rl (walk_list (xs := (K27.sdL (kv.map (·.1))).map vS)) (K27.sdL (kv.map (·.1))) (fun l v H => ∃ q, v = V.ref q ∧ q ≠ D ∧ H q = some (.tup [vS l, vS ((K27.aget kv l).getD [])])) (by rw [List.length_map]) (by rw [List.length_map]; omega) hD
      (fun H' s' => s'.seq (SqL.of hHs)) (fun a v H H' bt ⟨q, h1, h2, h3⟩ => ⟨q, h1, h2, bt _ _ h2 h3⟩) (fun n l x H7 H8 Qy hn hl s7 hD7 yl qy => ?_) fun H7 ys s7 hys hlen hP => ?_
    · obtain ⟨rfl, hx⟩ := yl
      obtain ⟨l', hl', rfl⟩ := map_take _ _ _ _ hx
      rw [hl'] at hl
      cases hl
      obtain ⟨t1, et⟩ := (keys_iff kv l).mp ((K27.mem_sdG l _).mp (List.mem_of_getElem? hl'))
      have dg := DGet.k (k := kT l) (s7 _ _ (s56 _ _ hk5))
      rw [valV_kvm, et] at dg
      refine ⟨rfl, _, rfl, _, rfl, _, rfl, kn, vS t1, rfl, dg, two, fun q hq => qy _ _ ⟨q, rfl, ?_, ?_⟩ (same_upd hq)⟩
      · intro e
        rw [e] at hq
        exact hD7 hq
      · rw [upd_same, et]
        rfl
    refine ⟨D, ys, rfl, .inl ⟨SqL.of hys, fun due hdue => ?_⟩⟩
    have pd := pairs_of (D := D) hdue hlen hP
    have sd := same_upd (o := .tup ys) hdue
    have s38 := s35.trans (s56.trans (s7.trans sd))
    have rd := isRes I h0
    generalize L2.upd H7 due (.tup ys) = H8 at *
    generalize resOf kv (K27.sdL (kv.map (·.1))) = R at *
    have hsR := res_short ok I h0 rd
    have nR := res_nice ok rd hsR
    have hg8 := hg.same s38
    refine ⟨_, rfl, t, g, rfl, hg8, ok, fun H9 p1 R1 s9 hp1 r1 => ⟨_, rfl, t, g, rfl, hg8.same s9, ok, fun H10 p2 R2 s10 hp2 r2 => ⟨two, fun tl htl => ?_⟩⟩⟩
    have e1 := r1.uniq rd
    have e2 := r2.uniq rd
    subst e1
    have e2' : R2 = R1 := e2
    subst e2'
    have stl := same_upd (o := .lst [V.ref p1, .ref p2]) htl
    have htl' := upd_same (H := H10) (a := tl) (o := HO.lst [V.ref p1, .ref p2])
    have hp1' := (hp1.same s10).same stl
    have hp2' := hp2.same stl
    have pd' := (pd.same (s9.trans s10)).same stl
    have hg11 := (hg8.same (s9.trans s10)).same stl
    have f11 := (f3.same s38).same ((s9.trans s10).trans stl)
    generalize L2.upd H10 tl (.lst [V.ref p1, .ref p2]) = H11 at *
    have n2 : Nice (.list [dR R2, dR R2]) 300000 3 := (Nice.lst (.cons nR (.cons nR .nil))).mono (by decide) (Nat.le_refl _)
    refine ⟨_, rfl, ?_⟩
    obtain ⟨r1', r2', r3', r4'⟩ := repr_ok n2 (by decide) (by decide) hr.units
    refine ⟨tl, .list [dR R2, dR R2], rfl, .lst (SqL.of htl') (.cons (pairs_dp hp1') (.cons (pairs_dp hp2') .nil)), r1', r2', r3', r4', ?_⟩
    refine ⟨_, rfl, _, rfl, two, fun t2 ht2 => ?_⟩
    have st2 := same_upd (o := .lst [V.ref due, .ref due]) ht2
    refine ⟨t2, .list [dR R2, dR R2], rfl, .lst (SqL.of upd_same) (.cons (pairs_dp (pd'.same st2)) (.cons (pairs_dp (pd'.same st2)) .nil)), r1', r2', r3', r4', ?_⟩
    refine ⟨rfl, _, rfl, ?_⟩
    rw [decide_eq_true rfl]
    refine iteF ?_
    refine ⟨_, rfl, ?_⟩
    refine ⟨t, dG g, rfl, hgd (hg11.same st2), g1, g2, g3, g4, ?_⟩
    refine ⟨_, rfl, rfl, _, rfl, ?_⟩
    rw [decide_eq_true rfl]
    refine iteF ?_
    refine ⟨_, rfl, _, rfl, tl, _, _, .ref p1, rfl, rfl, SqL.of (st2 _ _ htl'), atI_nat (j := 0) rfl, t, p1, g, R2, rfl, hg11.same st2, ok, hp1'.same st2, rd, fun l s hm => by have := hsR l s hm; omega, fun H12 s12 => ⟨_, rfl, ?_⟩⟩
    refine iteF ⟨_, _, _, _, _, _, rfl, (f11.same st2).same s12⟩
end
end K27W
namespace K27H
open PySem PySem.Spec PyProof.Rows L2
def top (i : Nat) : Stmt := PySem.Challenge.pw_lookdepth_k27_whole_all_tops.main.body.getD i (.Pass ⟨0, 0, 0, 0⟩)
def dd (x : Str) (i : Nat) : He.DefD := ⟨(x, none), x, x, defArgs (top i), defBody (top i), defScope (top i), [], []⟩
def names : List (Str × Nat) := [("lot_of", 1), ("labels_in", 3), ("orders_of", 4), ("orders_by", 5), ("fits", 6), ("tops_above", 7), ("rows_of_lots", 9), ("is_less", 10), ("shapes_by", 11), ("all_tops", 12),
  ("_law_feed", 14), ("_law_draw", 15), ("_law_pick", 16), ("_law_pool", 17), ("_law_named", 18), ("_law_row", 19), ("_law_codes", 20), ("_law_letters", 21), ("_law_grid", 22), ("_law_kids", 23), ("_law_orders", 24),
  ("_law_ways", 25), ("_law_stands", 26), ("_law_cans", 27), ("_law_tops", 28), ("_law_met", 29), ("_law_pairs", 30), ("_law_shapes", 31), ("_law_are_closed", 32), ("law", 33)]
def fn : List He.DefD := names.map fun p => dd p.1 p.2
def frees : List Str := ["len", "range", "sorted", "set", "list", "tuple", "int", "repr", "any", "all", "zip"]
def fa : List He.Fa := names.map (fun p => .glo p.1) ++ frees.map .free
abbrev R : PySem.W.OpenRow := PySem.W.OpenLaw.row PySem.Challenge.rw_lookdepth_k27_whole_all_tops
abbrev hk : PySem.W.Hook := He.hookD 4 fa fn
def ob (s : PySem.W.SharedT) : He.AlD := He.obsDG 4 fa fn (HandSHeadRun.getT s)
theorem ob_eq (s : PySem.W.SharedT) : ob s = hk.obs s.abs := He.obsDG_eq (HandSHeadRun.getT_eq s)
def others : List Str := (names.map (·.1)).take 29
theorem run (w : World) : HandSHeadRun.RunEq R (PySem.W.view R.prog [33]) hk ob 2000 others w := by
  intro os
  kernel_rfl
end K27H
namespace K27H
open PySem PySem.Spec PyProof.Rows L2 K27R K27W
theorem facts {P : Program} {w : World} {K : PySem.W.Frag} {h : Heap} {mg : Str → Option Value} {f : Addr} (X : K.In h) (G : h.Ns mainGlobals mg) (hfa : mg ("law" : Str) = some (.ref f)) (c : He.SaysD fa fn K) :
    ∃ fd : FuncData, (∀ (s : Shared) (v : Value), BindsTo s fd ⟨[v], []⟩ [("_law_script", v)]) ∧ ∀ base : Heap, K.In base → base.Ns mainGlobals mg → KeepsAt P w K mg base callerA f fd ["_law_script"] (spLaw K) := by
  have B : K27W.Free mg := ⟨He.free_ok X G (c.fact 30 (f := .free "len") rfl), He.free_ok X G (c.fact 31 (f := .free "range") rfl), He.free_ok X G (c.fact 32 (f := .free "sorted") rfl), He.free_ok X G (c.fact 33 (f := .free "set") rfl), He.free_ok X G (c.fact 34 (f := .free "list") rfl),
    He.free_ok X G (c.fact 35 (f := .free "tuple") rfl), He.free_ok X G (c.fact 36 (f := .free "int") rfl), He.free_ok X G (c.fact 37 (f := .free "repr") rfl), He.free_ok X G (c.fact 38 (f := .free "any") rfl), He.free_ok X G (c.fact 39 (f := .free "all") rfl), He.free_ok X G (c.fact 40 (f := .free "zip") rfl)⟩
  obtain ⟨_, F0⟩ := c.def_ 0 (d := dd "lot_of" 1) rfl
  obtain ⟨_, F1⟩ := c.def_ 1 (d := dd "labels_in" 3) rfl
  obtain ⟨_, F2⟩ := c.def_ 2 (d := dd "orders_of" 4) rfl
  obtain ⟨_, F3⟩ := c.def_ 3 (d := dd "orders_by" 5) rfl
  obtain ⟨_, F4⟩ := c.def_ 4 (d := dd "fits" 6) rfl
  obtain ⟨_, F5⟩ := c.def_ 5 (d := dd "tops_above" 7) rfl
  obtain ⟨_, F6⟩ := c.def_ 6 (d := dd "rows_of_lots" 9) rfl
  obtain ⟨_, F7⟩ := c.def_ 7 (d := dd "is_less" 10) rfl
  obtain ⟨_, F8⟩ := c.def_ 8 (d := dd "shapes_by" 11) rfl
  obtain ⟨_, F9⟩ := c.def_ 9 (d := dd "all_tops" 12) rfl
  obtain ⟨_, F10⟩ := c.def_ 10 (d := dd "_law_feed" 14) rfl
  obtain ⟨_, F11⟩ := c.def_ 11 (d := dd "_law_draw" 15) rfl
  obtain ⟨_, F12⟩ := c.def_ 12 (d := dd "_law_pick" 16) rfl
  obtain ⟨_, F13⟩ := c.def_ 13 (d := dd "_law_pool" 17) rfl
  obtain ⟨_, F14⟩ := c.def_ 14 (d := dd "_law_named" 18) rfl
  obtain ⟨_, F15⟩ := c.def_ 15 (d := dd "_law_row" 19) rfl
  obtain ⟨_, F16⟩ := c.def_ 16 (d := dd "_law_codes" 20) rfl
  obtain ⟨_, F17⟩ := c.def_ 17 (d := dd "_law_letters" 21) rfl
  obtain ⟨_, F18⟩ := c.def_ 18 (d := dd "_law_grid" 22) rfl
  obtain ⟨_, F19⟩ := c.def_ 19 (d := dd "_law_kids" 23) rfl
  obtain ⟨_, F20⟩ := c.def_ 20 (d := dd "_law_orders" 24) rfl
  obtain ⟨_, F21⟩ := c.def_ 21 (d := dd "_law_ways" 25) rfl
  obtain ⟨_, F22⟩ := c.def_ 22 (d := dd "_law_stands" 26) rfl
  obtain ⟨_, F23⟩ := c.def_ 23 (d := dd "_law_cans" 27) rfl
  obtain ⟨_, F24⟩ := c.def_ 24 (d := dd "_law_tops" 28) rfl
  obtain ⟨_, F25⟩ := c.def_ 25 (d := dd "_law_met" 29) rfl
  obtain ⟨_, F26⟩ := c.def_ 26 (d := dd "_law_pairs" 30) rfl
  obtain ⟨_, F27⟩ := c.def_ 27 (d := dd "_law_shapes" 31) rfl
  obtain ⟨_, F28⟩ := c.def_ 28 (d := dd "_law_are_closed" 32) rfl
  obtain ⟨fd, F29⟩ := c.def_ 29 (d := dd "law" 33) rfl
  have e := hfa.symm.trans (He.glo_ok X G (c.fact 29 (f := .glo "law") rfl))
  cases e
  have b := FunD.bindsA (ps := ["_law_script"]) F29 fun _ _ _ _ _ _ us hl => match us, hl with | [_], _ => rfl
  refine ⟨fd, fun s v => b s [v] rfl, fun base _ _ => ?_⟩
  have C0 : Cal P w K mg base 1 "lot_of" (spLot K) := c_lot F0 (He.glo_ok X G (c.fact 0 (f := .glo "lot_of") rfl)) B
  have C1 : Cal P w K mg base 2 "labels_in" (spLab K) := c_labels_in F1 (He.glo_ok X G (c.fact 1 (f := .glo "labels_in") rfl)) C0
  have C2 : Cal P w K mg base 2 "orders_of" spOrd := c_orders_of F2 (He.glo_ok X G (c.fact 2 (f := .glo "orders_of") rfl)) C0
  have C3 : Cal P w K mg base 3 "orders_by" (spOby K) := c_orders_by F3 (He.glo_ok X G (c.fact 3 (f := .glo "orders_by") rfl)) B C2
  have C4 : Cal P w K mg base 1 "fits" (spFit K) := c_fits F4 (He.glo_ok X G (c.fact 4 (f := .glo "fits") rfl)) B
  have C5 : Cal P w K mg base 2 "tops_above" (spTop K) := c_tops_above F5 (He.glo_ok X G (c.fact 5 (f := .glo "tops_above") rfl)) B C0 C4
  have C6 : Cal P w K mg base 1 "rows_of_lots" (spRol K) := c_rows_of_lots F6 (He.glo_ok X G (c.fact 6 (f := .glo "rows_of_lots") rfl)) B
  have C7 : Cal P w K mg base 1 "is_less" spLess := c_is_less F7 (He.glo_ok X G (c.fact 7 (f := .glo "is_less") rfl)) B
  have C8 : Cal P w K mg base 4 "shapes_by" (spShp K) := c_shapes_by F8 (He.glo_ok X G (c.fact 8 (f := .glo "shapes_by") rfl)) B C3 C1 C6 C5 C7
  have g9 := He.glo_ok X G (c.fact 9 (f := .glo "all_tops") rfl)
  have C9 : Cal P w K mg base 5 "all_tops" (spAll K) := c_all_tops F9 B C8 g9
  have CK9 : CalK P w K mg base 5 "all_tops" "table" (spAll K) := ck_all_tops F9 B C8 g9
  have C10 : Cal P w K mg base 1 "_law_feed" (spFeed K) := c_feed F10 (He.glo_ok X G (c.fact 10 (f := .glo "_law_feed") rfl)) B
  have C11 : Cal P w K mg base 1 "_law_draw" (spDraw K) := c_draw F11 (He.glo_ok X G (c.fact 11 (f := .glo "_law_draw") rfl)) B
  have C12 : Cal P w K mg base 2 "_law_pick" (spPick K) := c_pick F12 (He.glo_ok X G (c.fact 12 (f := .glo "_law_pick") rfl)) B C11
  have C13 : Cal P w K mg base 3 "_law_pool" (spPool K) := c_pool F13 (He.glo_ok X G (c.fact 13 (f := .glo "_law_pool") rfl)) B C12
  have C14 : Cal P w K mg base 1 "_law_named" (spNam K) := c_named F14 (He.glo_ok X G (c.fact 14 (f := .glo "_law_named") rfl)) B
  have C15 : Cal P w K mg base 3 "_law_row" (spRow K) := c_row F15 (He.glo_ok X G (c.fact 15 (f := .glo "_law_row") rfl)) B C12
  have C16 : Cal P w K mg base 1 "_law_codes" spCodes := c_codes F16 (He.glo_ok X G (c.fact 16 (f := .glo "_law_codes") rfl))
  have C17 : Cal P w K mg base 1 "_law_letters" (spLet K) := c_letters F17 (He.glo_ok X G (c.fact 17 (f := .glo "_law_letters") rfl)) B
  have C18 : Cal P w K mg base 4 "_law_grid" (spGrid K) := c_grid F18 (He.glo_ok X G (c.fact 18 (f := .glo "_law_grid") rfl)) B C13 C16 C14 C12 C17 C11 C15
  have C19 : Cal P w K mg base 1 "_law_kids" spKid := c_kids F19 (He.glo_ok X G (c.fact 19 (f := .glo "_law_kids") rfl)) B
  have C20 : Cal P w K mg base 1 "_law_orders" spOrw := c_orders F20 (He.glo_ok X G (c.fact 20 (f := .glo "_law_orders") rfl)) B
  have C21 : Cal P w K mg base 2 "_law_ways" (spWay K) := c_ways F21 (He.glo_ok X G (c.fact 21 (f := .glo "_law_ways") rfl)) B C17 C20
  have C22 : Cal P w K mg base 1 "_law_stands" (spSta K) := c_stands F22 (He.glo_ok X G (c.fact 22 (f := .glo "_law_stands") rfl)) B
  have C23 : Cal P w K mg base 3 "_law_cans" (spCan K) := c_cans F23 (He.glo_ok X G (c.fact 23 (f := .glo "_law_cans") rfl)) B C19 C21 C17 C22
  have C24 : Cal P w K mg base 4 "_law_tops" (spTps K) := c_tops F24 (He.glo_ok X G (c.fact 24 (f := .glo "_law_tops") rfl)) B C23
  have C25 : Cal P w K mg base 1 "_law_met" (spMet K) := c_met F25 (He.glo_ok X G (c.fact 25 (f := .glo "_law_met") rfl)) B
  have C26 : Cal P w K mg base 1 "_law_pairs" (spPar K) := c_pairs F26 (He.glo_ok X G (c.fact 26 (f := .glo "_law_pairs") rfl)) B
  have C27 : Cal P w K mg base 3 "_law_shapes" (spShs K) := c_shapes F27 (He.glo_ok X G (c.fact 27 (f := .glo "_law_shapes") rfl)) B C21 C17 C26 C25
  have C28 : Cal P w K mg base 5 "_law_are_closed" (spClo K) := c_closed F28 (He.glo_ok X G (c.fact 28 (f := .glo "_law_are_closed") rfl)) B C21 C24 C26 C25
  refine keepsAt (k := 5) F29 sclaw ⟨rfl, by decide, by decide⟩ (fun vs H Q E h => ?_) fun cdv outer s H vs Q E hr h => ?_
  · obtain ⟨a, ns, rfl, _⟩ := h
    rfl
  · obtain ⟨t, h1, h2⟩ := law_walk B C10 C18 C27 C9 CK9 C28 cdv outer s H vs Q E hr h
    exact ⟨t, PSs.nox h1, h2⟩
end K27H
open PySem PySem.W PySem.Calls PyProof.Rows
theorem PySem.Challenge.cw_lookdepth_k27_whole_all_tops_holds : PySem.Challenge.rw_lookdepth_k27_whole_all_tops.Holds := by
  w_on; o_law
  refine HandSHeadRun.head_any (r := OpenLaw.row PySem.Challenge.rw_lookdepth_k27_whole_all_tops) (q := view (OpenLaw.row PySem.Challenge.rw_lookdepth_k27_whole_all_tops).prog [33]) (H := K27H.hk) (ob := K27H.ob) (M := 2000) (loose := K27H.others) (d := HandSHeadRun.topDef (OpenLaw.row PySem.Challenge.rw_lookdepth_k27_whole_all_tops).prog 33) (kwd := []) K27H.ob_eq
    (by kernel_rfl) (fun s => by kernel_rfl) K27H.run (by kernel_rfl) (by kernel_rfl) (by kernel_rfl) (by rfl) (by first | assumption | decide +kernel) (by decide +kernel) ⟨rfl, rfl, rfl, rfl, rfl, by decide +kernel⟩ ?hw ?hc
  case hw => w_witness2
  case hc =>
    refine K27R.walk_at (l := PySem.Challenge.rw_lookdepth_k27_whole_all_tops) (n := 63) (y := "_law_script") rfl (by decide) (by kernel_rfl) ?F
    intro w mg fa h Y G hmg0
    obtain ⟨K, KX, c⟩ := Y
    have hmg : mg ("law" : PySem.Str) = some (.ref fa) := by
      have e : (HandSHeadRun.topDef (OpenLaw.row PySem.Challenge.rw_lookdepth_k27_whole_all_tops).prog 33).name = ("law" : PySem.Str) := by kernel_rfl
      rw [← e]
      exact hmg0
    obtain ⟨fd, hb, hF⟩ := K27H.facts (P := (PySem.Challenge.rw_lookdepth_k27_whole_all_tops).prog) (w := w) KX G hmg c
    exact ⟨K, fd, K27W.spLaw K, KX, hb, fun H a ns hl hS => ⟨a, ns, rfl, hS, Nat.le_trans hl (by decide), fun _ => rfl⟩, hF⟩
