import PyProof.Rows.All
import Wide.All
import OpenK.AllK
import Wide.FinOn
import PyProof.ReprRoads
import PyProof.DictUpdate
import HandS.ForMost
import HandS.Codes
import HandS.NoneIn
import HandS.SetKeys
import HandS.Conv
import HandS.More
import HandS.IsInst
import HandS.Strs
import HandS.SetFor
import HandS.Zip
import HandS.Deep
import HandS.DictComp
import HandS.Style
import HandS.Wide
import HandS.Exc
import HandS.Defaults
import HandS.EndBits
import HandS.HeadHook1
import HandS.HeadHook2
import HandS.HeadHook3
import HandS.HeadHook4
import PySem.Challenge.RW_reachbook_k09_whole_plain_ties
import KE.KStateDown
import HandS.Head0
import HandS.Head1
import HandS.Head2
import HandS.EndTab
import HandS.HeadWalk
import PyProof.P3Eq
import KE.Datum
import PyProof.ReprBulk
import PyProof.ReprReads
set_option Elab.async false
set_option linter.all false
set_option maxRecDepth 100000
/-! The plain law: ties, pieces, forests, ways, colours. No program in sight. -/
namespace RB
/-- a tie: its number, its ends, its load, whether it is one-way -/
structure Tie (α : Type) where
  num : Int
  tl : α
  hd : α
  load : Int
  ow : Bool
  deriving DecidableEq

section
variable {α : Type} [DecidableEq α]

/-! ### who is beside whom -/
abbrev Adj (α : Type) := α → List (Int × α)
def adjT (t : Tie α) (x : α) : List (Int × α) := (if t.tl = x then [(t.num, t.hd)] else []) ++ (if t.hd = x then [(t.num, t.tl)] else [])
def adjF (ts : List (Tie α)) : Adj α := fun x => ts.flatMap fun t => adjT t x
theorem adjF_nil (x : α) : adjF ([] : List (Tie α)) x = [] := rfl
theorem adjF_snoc (ts : List (Tie α)) (t : Tie α) (x : α) : adjF (ts ++ [t]) x = adjF ts x ++ adjT t x := by
  simp [adjF, List.flatMap_append]
theorem mem_adjT {t : Tie α} {x y : α} {n : Int} : (n, y) ∈ adjT t x ↔ n = t.num ∧ ((t.tl = x ∧ t.hd = y) ∨ (t.hd = x ∧ t.tl = y)) := by
  unfold adjT
  by_cases h1 : t.tl = x <;> by_cases h2 : t.hd = x <;> simp [h1, h2] <;> grind
theorem mem_adjF {ts : List (Tie α)} {x y : α} {n : Int} : (n, y) ∈ adjF ts x ↔ ∃ t ∈ ts, n = t.num ∧ ((t.tl = x ∧ t.hd = y) ∨ (t.hd = x ∧ t.tl = y)) := by
  unfold adjF
  rw [List.mem_flatMap]
  constructor
  · rintro ⟨t, ht, h⟩; exact ⟨t, ht, mem_adjT.mp h⟩
  · rintro ⟨t, ht, h⟩; exact ⟨t, ht, mem_adjT.mpr h⟩
def Adjc (ts : List (Tie α)) (x y : α) : Prop := ∃ t ∈ ts, (t.tl = x ∧ t.hd = y) ∨ (t.hd = x ∧ t.tl = y)
theorem adjc_iff {ts : List (Tie α)} {x y : α} : Adjc ts x y ↔ ∃ n, (n, y) ∈ adjF ts x := by
  constructor
  · rintro ⟨t, ht, h⟩; exact ⟨t.num, mem_adjF.mpr ⟨t, ht, rfl, h⟩⟩
  · rintro ⟨n, h⟩; obtain ⟨t, ht, _, h⟩ := mem_adjF.mp h; exact ⟨t, ht, h⟩
theorem Adjc.symm {ts : List (Tie α)} {x y : α} (h : Adjc ts x y) : Adjc ts y x := by
  obtain ⟨t, ht, h | h⟩ := h
  · exact ⟨t, ht, .inr ⟨h.2, h.1⟩⟩
  · exact ⟨t, ht, .inl ⟨h.2, h.1⟩⟩

/-! ### hanging together -/
inductive Conn (ts : List (Tie α)) : α → α → Prop
  | refl (x : α) : Conn ts x x
  | step {x y z : α} : Conn ts x y → Adjc ts y z → Conn ts x z
theorem Conn.trans {ts : List (Tie α)} {x y z : α} (a : Conn ts x y) (b : Conn ts y z) : Conn ts x z := by
  induction b with
  | refl => exact a
  | step _ h ih => exact .step ih h
theorem Conn.one {ts : List (Tie α)} {x y : α} (h : Adjc ts x y) : Conn ts x y := .step (.refl x) h
theorem Conn.symm {ts : List (Tie α)} {x y : α} (a : Conn ts x y) : Conn ts y x := by
  induction a with
  | refl => exact .refl _
  | step _ h ih => exact (Conn.one h.symm).trans ih
theorem Conn.mono {ts us : List (Tie α)} (h : ∀ t ∈ ts, t ∈ us) {x y : α} (a : Conn ts x y) : Conn us x y := by
  induction a with
  | refl => exact .refl _
  | step _ e ih => obtain ⟨t, ht, e⟩ := e; exact .step ih ⟨t, h t ht, e⟩
theorem Conn.snoc {ts : List (Tie α)} {t : Tie α} {x y : α} : Conn (ts ++ [t]) x y ↔ Conn ts x y ∨ (Conn ts x t.tl ∧ Conn ts t.hd y) ∨ (Conn ts x t.hd ∧ Conn ts t.tl y) := by
  constructor
  · intro h
    induction h with
    | refl => exact .inl (.refl _)
    | step _ e ih =>
      obtain ⟨u, hu, e⟩ := e
      rw [List.mem_append, List.mem_singleton] at hu
      rcases hu with hu | rfl
      · have s : Adjc ts _ _ := ⟨u, hu, e⟩
        rcases ih with ih | ⟨a, b⟩ | ⟨a, b⟩
        · exact .inl (.step ih s)
        · exact .inr (.inl ⟨a, .step b s⟩)
        · exact .inr (.inr ⟨a, .step b s⟩)
      · rcases e with ⟨e1, e2⟩ | ⟨e1, e2⟩ <;> subst e1 <;> subst e2
        · rcases ih with ih | ⟨a, b⟩ | ⟨a, b⟩
          · exact .inr (.inl ⟨ih, .refl _⟩)
          · exact .inr (.inl ⟨a, .refl _⟩)
          · exact .inl a
        · rcases ih with ih | ⟨a, b⟩ | ⟨a, b⟩
          · exact .inr (.inr ⟨ih, .refl _⟩)
          · exact .inl a
          · exact .inr (.inr ⟨a, .refl _⟩)
  · have m : ∀ {x y : α}, Conn ts x y → Conn (ts ++ [t]) x y := fun h => h.mono fun u hu => List.mem_append_left _ hu
    have e : Adjc (ts ++ [t]) t.tl t.hd := ⟨t, by simp, .inl ⟨rfl, rfl⟩⟩
    rintro (h | ⟨a, b⟩ | ⟨a, b⟩)
    · exact m h
    · exact (m a).trans ((Conn.one e).trans (m b))
    · exact (m a).trans ((Conn.one e.symm).trans (m b))

/-! ### roots -/
def rootStep (r : α → α) (t : Tie α) : α → α := fun x => if r x = r t.hd then r t.tl else r x
def rootsF (ts : List (Tie α)) : α → α := ts.foldl rootStep id
theorem rootsF_snoc (ts : List (Tie α)) (t : Tie α) : rootsF (ts ++ [t]) = rootStep (rootsF ts) t := by simp [rootsF, List.foldl_append]
theorem rootStep_same {r : α → α} {t : Tie α} (h : r t.tl = r t.hd) : rootStep r t = r := by
  funext x
  unfold rootStep
  by_cases e : r x = r t.hd
  · rw [if_pos e, h, e]
  · rw [if_neg e]
theorem snoc_ind {β : Type} {P : List β → Prop} (h0 : P []) (hs : ∀ l x, P l → P (l ++ [x])) : ∀ l, P l := by
  intro l
  have h : ∀ l : List β, P l.reverse := by
    intro l
    induction l with
    | nil => exact h0
    | cons x l ih => rw [List.reverse_cons]; exact hs _ _ ih
  have := h l.reverse
  rwa [List.reverse_reverse] at this
theorem roots_iff (ts : List (Tie α)) : ∀ x y : α, rootsF ts x = rootsF ts y ↔ Conn ts x y := by
  refine snoc_ind (P := fun ts => ∀ x y : α, rootsF ts x = rootsF ts y ↔ Conn ts x y) ?_ ?_ ts
  · intro x y
    constructor
    · intro h; have h : x = y := h; subst h; exact .refl _
    · intro h
      have : ∀ x y : α, Conn ([] : List (Tie α)) x y → x = y := by
        intro x y h
        induction h with
        | refl => rfl
        | step _ e _ => obtain ⟨_, h, _⟩ := e; cases h
      rw [this x y h]
  · intro ts t ih x y
    rw [rootsF_snoc, Conn.snoc, ← ih, ← ih, ← ih, ← ih, ← ih]
    unfold rootStep
    generalize rootsF ts x = a
    generalize rootsF ts y = b
    generalize rootsF ts t.tl = c
    generalize rootsF ts t.hd = d
    by_cases h1 : a = d <;> by_cases h2 : b = d
    · subst h1; subst h2; simp
    · rw [if_pos h1, if_neg h2]; subst h1; constructor
      · intro e; subst e; exact .inr (.inr ⟨rfl, rfl⟩)
      · rintro (e | ⟨e1, e2⟩ | ⟨_, e⟩)
        · exact absurd e.symm h2
        · exact absurd e2.symm h2
        · exact e
    · rw [if_neg h1, if_pos h2]; subst h2; constructor
      · intro e; subst e; exact .inr (.inl ⟨rfl, rfl⟩)
      · rintro (e | ⟨e, _⟩ | ⟨e1, _⟩)
        · exact absurd e h1
        · exact e
        · exact absurd e1 h1
    · rw [if_neg h1, if_neg h2]; constructor
      · intro e; exact .inl e
      · rintro (e | ⟨_, e⟩ | ⟨e, _⟩)
        · exact e
        · exact absurd e.symm h2
        · exact absurd e h1

/-! ### the forest -/
def forStep (s : (α → α) × List (Tie α)) (t : Tie α) : (α → α) × List (Tie α) := if s.1 t.tl = s.1 t.hd then s else (rootStep s.1 t, s.2 ++ [t])
def forF (ts : List (Tie α)) : (α → α) × List (Tie α) := ts.foldl forStep (id, [])
def forestF (ts : List (Tie α)) : List (Tie α) := (forF ts).2
theorem forF_snoc (ts : List (Tie α)) (t : Tie α) : forF (ts ++ [t]) = forStep (forF ts) t := by simp [forF, List.foldl_append]
theorem forF_roots (ts : List (Tie α)) : (forF ts).1 = rootsF ts := by
  refine snoc_ind (P := fun ts => (forF ts).1 = rootsF ts) rfl ?_ ts
  intro ts t ih
  rw [forF_snoc, rootsF_snoc, ← ih]
  unfold forStep
  by_cases h : (forF ts).1 t.tl = (forF ts).1 t.hd
  · rw [if_pos h, rootStep_same h]
  · rw [if_neg h]
theorem forestF_snoc (ts : List (Tie α)) (t : Tie α) : forestF (ts ++ [t]) = if rootsF ts t.tl = rootsF ts t.hd then forestF ts else forestF ts ++ [t] := by
  unfold forestF
  rw [forF_snoc, ← forF_roots]
  unfold forStep
  by_cases h : (forF ts).1 t.tl = (forF ts).1 t.hd
  · rw [if_pos h, if_pos h]
  · rw [if_neg h, if_neg h]
theorem forest_sub (ts : List (Tie α)) : ∀ t ∈ forestF ts, t ∈ ts := by
  refine snoc_ind (P := fun ts => ∀ t ∈ forestF ts, t ∈ ts) (fun t h => by cases h) ?_ ts
  intro ts t ih u hu
  rw [forestF_snoc] at hu
  split at hu
  · exact List.mem_append_left _ (ih u hu)
  · rcases List.mem_append.mp hu with h | h
    · exact List.mem_append_left _ (ih u h)
    · exact List.mem_append_right _ h
theorem forest_roots (ts : List (Tie α)) : rootsF (forestF ts) = rootsF ts := by
  refine snoc_ind (P := fun ts => rootsF (forestF ts) = rootsF ts) rfl ?_ ts
  intro ts t ih
  rw [forestF_snoc, rootsF_snoc]
  by_cases h : rootsF ts t.tl = rootsF ts t.hd
  · rw [if_pos h, rootStep_same h, ih]
  · rw [if_neg h, rootsF_snoc, ih]
theorem forest_conn (ts : List (Tie α)) (x y : α) : Conn (forestF ts) x y ↔ Conn ts x y := by
  rw [← roots_iff, ← roots_iff, forest_roots]
theorem forest_forest (ts : List (Tie α)) : forestF (forestF ts) = forestF ts := by
  refine snoc_ind (P := fun ts => forestF (forestF ts) = forestF ts) rfl ?_ ts
  intro ts t ih
  rw [forestF_snoc]
  by_cases h : rootsF ts t.tl = rootsF ts t.hd
  · rw [if_pos h, ih]
  · rw [if_neg h, forestF_snoc, forest_roots, if_neg h, ih]
theorem forest_filter {ts : List (Tie α)} (hn : (ts.map (·.num)).Nodup) : ts.filter (fun t => decide (t.num ∈ (forestF ts).map (·.num))) = forestF ts := by
  have key : ∀ ts : List (Tie α), (ts.map (·.num)).Nodup → ∀ us : List (Tie α), (∀ u ∈ us, u.num ∉ ts.map (·.num)) → ts.filter (fun t => decide (t.num ∈ (forestF ts ++ us).map (·.num))) = forestF ts := by
    intro ts
    refine snoc_ind (P := fun ts => (ts.map (·.num)).Nodup → ∀ us : List (Tie α), (∀ u ∈ us, u.num ∉ ts.map (·.num)) → ts.filter (fun t => decide (t.num ∈ (forestF ts ++ us).map (·.num))) = forestF ts) (fun _ _ _ => rfl) ?_ ts
    intro ts t ih hn us hus
    rw [List.map_append, List.map_singleton, List.nodup_append] at hn
    obtain ⟨n1, _, n3⟩ := hn
    have nt : t.num ∉ ts.map (·.num) := fun h => n3 _ h _ (by simp) rfl
    have nus : ∀ u ∈ us, u.num ∉ ts.map (·.num) := fun u hu h => hus u hu (by rw [List.map_append]; exact List.mem_append_left _ h)
    have tus : t.num ∉ us.map (·.num) := fun h => by
      obtain ⟨u, hu, e⟩ := List.mem_map.mp h
      exact hus u hu (by rw [List.map_append, e]; simp)
    have tf : t.num ∉ (forestF ts).map (·.num) := fun h => by
      obtain ⟨u, hu, e⟩ := List.mem_map.mp h
      exact nt (List.mem_map.mpr ⟨u, forest_sub ts u hu, e⟩)
    rw [forestF_snoc, List.filter_append]
    by_cases h : rootsF ts t.tl = rootsF ts t.hd
    · rw [if_pos h, ih n1 us nus]
      have : ([t].filter fun t => decide (t.num ∈ (forestF ts ++ us).map (·.num))) = [] := by
        rw [List.filter_cons, if_neg]
        · rfl
        · simp only [decide_eq_true_eq, List.map_append, List.mem_append]
          rintro (h | h)
          · exact tf h
          · exact tus h
      rw [this, List.append_nil]
    · rw [if_neg h, List.append_assoc, ih n1 ([t] ++ us) (by
        intro u hu
        rcases List.mem_append.mp hu with hu | hu
        · rw [List.mem_singleton] at hu; subst hu; exact nt
        · exact nus u hu)]
      have : ([t].filter fun u => decide (u.num ∈ (forestF ts ++ ([t] ++ us)).map (·.num))) = [t] := by
        rw [List.filter_cons, if_pos]
        · rfl
        · simp
      rw [this]
  have := key ts hn [] (fun u h => by cases h)
  simpa using this

/-! ### two colours -/
def Proper (ts : List (Tie α)) (c : α → Bool) : Prop := ∀ t ∈ ts, c t.tl ≠ c t.hd
theorem forest_proper (ts : List (Tie α)) : ∃ c : α → Bool, Proper (forestF ts) c := by
  refine snoc_ind (P := fun ts => ∃ c : α → Bool, Proper (forestF ts) c) ⟨fun _ => false, fun t h => by cases h⟩ ?_ ts
  rintro ts t ⟨c, hc⟩
  rw [forestF_snoc]
  by_cases h : rootsF ts t.tl = rootsF ts t.hd
  · rw [if_pos h]; exact ⟨c, hc⟩
  · rw [if_neg h]
    -- the piece of the head is turned where it must be
    refine ⟨fun x => if rootsF ts x = rootsF ts t.hd then (if c t.tl = c t.hd then !c x else c x) else c x, fun u hu => ?_⟩
    rcases List.mem_append.mp hu with hu | hu
    · have e : rootsF ts u.tl = rootsF ts u.hd := by
        rw [← forest_roots, roots_iff]
        exact .one ⟨u, hu, .inl ⟨rfl, rfl⟩⟩
      have q := hc u hu
      show (if rootsF ts u.tl = rootsF ts t.hd then (if c t.tl = c t.hd then !c u.tl else c u.tl) else c u.tl) ≠ (if rootsF ts u.hd = rootsF ts t.hd then (if c t.tl = c t.hd then !c u.hd else c u.hd) else c u.hd)
      rw [← e]
      split
      · split
        · intro z; exact q (by simpa using z)
        · exact q
      · exact q
    · rw [List.mem_singleton] at hu
      subst hu
      show (if rootsF ts u.tl = rootsF ts u.hd then (if c u.tl = c u.hd then !c u.tl else c u.tl) else c u.tl) ≠ (if rootsF ts u.hd = rootsF ts u.hd then (if c u.tl = c u.hd then !c u.hd else c u.hd) else c u.hd)
      rw [if_neg h, if_pos rfl]
      split
      · rename_i z; rw [z]; simp
      · assumption
end
end RB
/-! The plain law, part 2: who is come to, ways, pieces, colours. -/
namespace RB
section
variable {α : Type} [DecidableEq α]
/-! ### who is come to from a start, and by what -/
abbrev Came (α : Type) := List (α × Option (Int × α))
abbrev ckeys (F : Came α) : List α := F.map (·.1)
def insC (h : α) (F : Came α) (e : Int × α) : Came α := if e.2 ∈ ckeys F then F else F ++ [(e.2, some (e.1, h))]
def bfs (B : Adj α) : Nat → Nat → Came α → Came α
  | 0, _, F => F
  | n + 1, i, F => match F[i]? with
    | none => F
    | some e => bfs B n (i + 1) ((B e.1).foldl (insC e.1) F)
def cameF (B : Adj α) (s : α) : Came α := bfs B 20 0 [(s, none)]
/-- what holds of the table while it grows -/
structure CInv (B : Adj α) (s : α) (F : Came α) : Prop where
  nd : (ckeys F).Nodup
  hd : F[0]? = some (s, none)
  par : ∀ i k o, F[i]? = some (k, o) → (i = 0 ∧ k = s ∧ o = none) ∨ ∃ n h j o', o = some (n, h) ∧ j < i ∧ F[j]? = some (h, o') ∧ (n, k) ∈ B h
theorem cinv_start (B : Adj α) (s : α) : CInv B s [(s, none)] := by
  refine ⟨by simp [ckeys], rfl, fun i k o h => ?_⟩
  cases i with
  | zero => simp at h; exact .inl ⟨rfl, h.1.symm, h.2.symm⟩
  | succ i => simp at h
theorem cinv_ins {B : Adj α} {s : α} {F : Came α} {h : α} {e : Int × α} {j : Nat} {o' : Option (Int × α)} (I : CInv B s F) (hj : F[j]? = some (h, o')) (he : e ∈ B h) : CInv B s (insC h F e) := by
  unfold insC
  by_cases c : e.2 ∈ ckeys F
  · rw [if_pos c]; exact I
  · rw [if_neg c]
    have jl : j < F.length := (List.getElem?_eq_some_iff.mp hj).1
    refine ⟨?_, ?_, ?_⟩
    · unfold ckeys
      rw [List.map_append, List.nodup_append]
      refine ⟨I.nd, by simp, fun a ha b hb => ?_⟩
      simp at hb
      subst hb
      rintro rfl
      exact c ha
    · rw [List.getElem?_append_left (by have := (List.getElem?_eq_some_iff.mp I.hd).1; exact this)]
      exact I.hd
    · intro i k o hi
      by_cases hl : i < F.length
      · rw [List.getElem?_append_left hl] at hi
        rcases I.par i k o hi with q | ⟨n, h', j', o2, q1, q2, q3, q4⟩
        · exact .inl q
        · exact .inr ⟨n, h', j', o2, q1, q2, by rw [List.getElem?_append_left (by omega)]; exact q3, q4⟩
      · rw [List.getElem?_append_right (by omega)] at hi
        have : i - F.length = 0 := by
          by_cases z : i - F.length = 0
          · exact z
          · rw [List.getElem?_singleton, if_neg z] at hi; cases hi
        rw [this] at hi
        simp at hi
        obtain ⟨rfl, rfl⟩ := hi
        exact .inr ⟨e.1, h, j, o', rfl, by omega, by rw [List.getElem?_append_left jl]; exact hj, he⟩
/-- the table behind an insertion begins as it did -/
theorem insC_pre (h : α) (F : Came α) (e : Int × α) : ∃ G, insC h F e = F ++ G := by
  unfold insC
  by_cases c : e.2 ∈ ckeys F
  · exact ⟨[], by rw [if_pos c, List.append_nil]⟩
  · exact ⟨_, by rw [if_neg c]⟩
theorem foldC_pre (h : α) : ∀ (es : List (Int × α)) (F : Came α), ∃ G, es.foldl (insC h) F = F ++ G
  | [], F => ⟨[], by simp⟩
  | e :: es, F => by
    obtain ⟨G, q⟩ := insC_pre h F e
    obtain ⟨G', q'⟩ := foldC_pre h es (insC h F e)
    exact ⟨G ++ G', by rw [List.foldl_cons, q', q, List.append_assoc]⟩
theorem getElem?_pre {β : Type} {F G : List β} {i : Nat} {x : β} (h : F[i]? = some x) : (F ++ G)[i]? = some x := by
  rw [List.getElem?_append_left (List.getElem?_eq_some_iff.mp h).1]; exact h
theorem cinv_fold {B : Adj α} {s : α} {h : α} {j : Nat} {o' : Option (Int × α)} : ∀ (es : List (Int × α)) {F : Came α}, CInv B s F → F[j]? = some (h, o') → (∀ e ∈ es, e ∈ B h) → CInv B s (es.foldl (insC h) F)
  | [], _, I, _, _ => I
  | e :: es, F, I, hj, he => by
    rw [List.foldl_cons]
    refine cinv_fold (j := j) (o' := o') es (cinv_ins I hj (he e List.mem_cons_self)) ?_ (fun x hx => he x (List.mem_cons_of_mem _ hx))
    obtain ⟨G, q⟩ := insC_pre h F e
    rw [q]
    exact getElem?_pre hj
theorem foldC_has (h : α) : ∀ (es : List (Int × α)) (F : Came α), ∀ e ∈ es, e.2 ∈ ckeys (es.foldl (insC h) F)
  | [], _, e, he => by cases he
  | x :: es, F, e, he => by
    rw [List.foldl_cons]
    rcases List.mem_cons.mp he with rfl | he
    · obtain ⟨G, q⟩ := foldC_pre h es (insC h F e)
      rw [q]
      have : e.2 ∈ ckeys (insC h F e) := by
        unfold insC
        by_cases c : e.2 ∈ ckeys F
        · rw [if_pos c]; exact c
        · rw [if_neg c]; simp [ckeys]
      unfold ckeys at this ⊢
      rw [List.map_append]
      exact List.mem_append_left _ this
    · exact foldC_has h es _ e he
/-- the first i entries have all beside them in the table -/
def Closed (B : Adj α) (i : Nat) (F : Came α) : Prop := ∀ j k o, j < i → F[j]? = some (k, o) → ∀ e ∈ B k, e.2 ∈ ckeys F
theorem mem_pre {F G : Came α} {x : α} (h : x ∈ ckeys F) : x ∈ ckeys (F ++ G) := by
  unfold ckeys at *
  rw [List.map_append]
  exact List.mem_append_left _ h
theorem closed_next {B : Adj α} {i : Nat} {F : Came α} {k : α} {o : Option (Int × α)} (h : Closed B i F) (hi : F[i]? = some (k, o)) : Closed B (i + 1) ((B k).foldl (insC k) F) := by
  intro j k' o' hj hk e he
  obtain ⟨G, q⟩ := foldC_pre k (B k) F
  have il := (List.getElem?_eq_some_iff.mp hi).1
  rw [q, List.getElem?_append_left (by omega)] at hk
  by_cases c : j < i
  · rw [q]; exact mem_pre (h j k' o' c hk e he)
  · obtain rfl : j = i := by omega
    rw [hi] at hk
    cases hk
    exact foldC_has k (B k) F e he
/-- all names of the table are among some -/
theorem length_le_of_subset {l m : List α} (h : l.Nodup) (hs : ∀ x ∈ l, x ∈ m) : l.length ≤ m.length := by
  induction l generalizing m with
  | nil => simp
  | cons x l ih =>
    have hx := hs x List.mem_cons_self
    have h1 : l.length ≤ (m.erase x).length := by
      refine ih (List.nodup_cons.mp h).2 fun y hy => ?_
      have ne : y ≠ x := fun e => (List.nodup_cons.mp h).1 (e ▸ hy)
      exact (List.mem_erase_of_ne ne).mpr (hs y (List.mem_cons_of_mem _ hy))
    have h2 := List.length_erase_of_mem hx
    have h3 : 0 < m.length := List.length_pos_of_mem hx
    simp
    omega
structure Within (B : Adj α) (names : List α) : Prop where
  len : names.length ≤ 16
  stay : ∀ x ∈ names, ∀ e ∈ B x, e.2 ∈ names
theorem cinv_within {B : Adj α} {names : List α} {s : α} {F : Came α} (W : Within B names) (hs : s ∈ names) (I : CInv B s F) : ∀ x ∈ ckeys F, x ∈ names := by
  have key : ∀ n i : Nat, i < n → ∀ (k : α) (o : Option (Int × α)), F[i]? = some (k, o) → k ∈ names := by
    intro n
    induction n with
    | zero => intro i hi; omega
    | succ n ih =>
      intro i hi k o hk
      rcases I.par i k o hk with ⟨_, rfl, _⟩ | ⟨m, h, j, o', _, hj, hF, hB⟩
      · exact hs
      · exact W.stay h (ih j (by omega) h o' hF) (m, k) hB
  intro x hx
  obtain ⟨e, he, rfl⟩ := List.mem_map.mp hx
  obtain ⟨i, hi⟩ := List.mem_iff_getElem?.mp he
  exact key (i + 1) i (by omega) e.1 e.2 hi
theorem cinv_len {B : Adj α} {names : List α} {s : α} {F : Came α} (W : Within B names) (hs : s ∈ names) (I : CInv B s F) : F.length ≤ 16 := by
  have h := length_le_of_subset I.nd (cinv_within W hs I)
  unfold ckeys at h
  rw [List.length_map] at h
  exact Nat.le_trans h W.len
/-- the walk of the queue: one more turn, or its end -/
theorem bfs_turn {B : Adj α} {n i : Nat} {F : Came α} {k : α} {o : Option (Int × α)} (h : F[i]? = some (k, o)) : bfs B (n + 1) i F = bfs B n (i + 1) ((B k).foldl (insC k) F) := by
  show (match F[i]? with
    | none => F
    | some e => bfs B n (i + 1) ((B e.1).foldl (insC e.1) F)) = _
  rw [h]
theorem bfs_end {B : Adj α} {n i : Nat} {F : Came α} (h : F.length ≤ i) : bfs B (n + 1) i F = F := by
  show (match F[i]? with
    | none => F
    | some e => bfs B n (i + 1) ((B e.1).foldl (insC e.1) F)) = _
  rw [List.getElem?_eq_none_iff.mpr h]
theorem bfs_all {B : Adj α} {names : List α} {s : α} (W : Within B names) (hs : s ∈ names) : ∀ (n i : Nat) (F : Came α), CInv B s F → Closed B i F → i ≤ F.length → 16 < n + i → CInv B s (bfs B n i F) ∧ Closed B (bfs B n i F).length (bfs B n i F)
  | 0, i, F, I, C, hi, hn => by
    have := cinv_len W hs I
    omega
  | n + 1, i, F, I, C, hi, hn => by
    by_cases c : i < F.length
    · have hk : F[i]? = some (F[i].1, F[i].2) := List.getElem?_eq_getElem c
      rw [bfs_turn hk]
      have I' := cinv_fold (B F[i].1) I hk fun e he => he
      obtain ⟨G, q⟩ := foldC_pre F[i].1 (B F[i].1) F
      exact bfs_all W hs n (i + 1) _ I' (closed_next C hk) (by rw [q, List.length_append]; omega) (by omega)
    · rw [bfs_end (by omega)]
      obtain rfl : i = F.length := by omega
      exact ⟨I, C⟩
theorem came_inv {B : Adj α} {names : List α} {s : α} (W : Within B names) (hs : s ∈ names) : CInv B s (cameF B s) ∧ Closed B (cameF B s).length (cameF B s) :=
  bfs_all W hs 20 0 [(s, none)] (cinv_start B s) (fun j k o h => by omega) (by simp) (by omega)
theorem within_adj {ts : List (Tie α)} {names : List α} (hl : names.length ≤ 16) (h : ∀ t ∈ ts, t.tl ∈ names ∧ t.hd ∈ names) : Within (adjF ts) names := by
  refine ⟨hl, fun x _ e he => ?_⟩
  obtain ⟨n, y⟩ := e
  obtain ⟨t, ht, _, h1 | h1⟩ := mem_adjF.mp he
  · rw [← h1.2]; exact (h t ht).2
  · rw [← h1.2]; exact (h t ht).1
/-- who is come to is who hangs together with the start -/
theorem came_keys {ts : List (Tie α)} {names : List α} {s : α} (W : Within (adjF ts) names) (hs : s ∈ names) (x : α) : x ∈ ckeys (cameF (adjF ts) s) ↔ Conn ts s x := by
  obtain ⟨I, C⟩ := came_inv W hs
  generalize hF : cameF (adjF ts) s = F at *
  constructor
  · intro hx
    have key : ∀ n i : Nat, i < n → ∀ (k : α) (o : Option (Int × α)), F[i]? = some (k, o) → Conn ts s k := by
      intro n
      induction n with
      | zero => intro i hi; omega
      | succ n ih =>
        intro i hi k o hk
        rcases I.par i k o hk with ⟨_, rfl, _⟩ | ⟨m, h, j, o', _, hj, hq, hB⟩
        · exact .refl _
        · exact .step (ih j (by omega) h o' hq) (adjc_iff.mpr ⟨m, hB⟩)
    obtain ⟨e, he, rfl⟩ := List.mem_map.mp hx
    obtain ⟨i, hi⟩ := List.mem_iff_getElem?.mp he
    exact key (i + 1) i (by omega) e.1 e.2 hi
  · intro h
    induction h with
    | refl => exact List.mem_map.mpr ⟨(s, none), List.mem_of_getElem? I.hd, rfl⟩
    | step _ h ih =>
      obtain ⟨e, he, rfl⟩ := List.mem_map.mp ih
      obtain ⟨i, hi⟩ := List.mem_iff_getElem?.mp he
      obtain ⟨n, hn⟩ := adjc_iff.mp h
      exact C i e.1 e.2 (List.getElem?_eq_some_iff.mp hi).1 hi _ hn

/-! ### ways -/
def lookC (F : Came α) (x : α) : Option (Option (Int × α)) := (F.find? fun e => decide (e.1 = x)).map (·.2)
theorem lookC_at {F : Came α} (nd : (ckeys F).Nodup) {i : Nat} {k : α} {o : Option (Int × α)} (h : F[i]? = some (k, o)) : lookC F k = some o := by
  induction F generalizing i with
  | nil => simp at h
  | cons e F ih =>
    unfold lookC
    rw [List.find?_cons]
    cases i with
    | zero =>
      simp at h
      subst h
      simp
    | succ i =>
      have h' : F[i]? = some (k, o) := by simpa using h
      have ne : ¬ e.1 = k := fun z => by
        have := (List.nodup_cons.mp nd).1
        exact this (List.mem_map.mpr ⟨(k, o), List.mem_of_getElem? h', z.symm⟩)
      rw [decide_eq_false ne]
      exact ih (List.nodup_cons.mp nd).2 h'
theorem lookC_some {F : Came α} {x : α} {o : Option (Int × α)} (h : lookC F x = some o) : ∃ i : Nat, F[i]? = some (x, o) := by
  unfold lookC at h
  cases q : F.find? fun e => decide (e.1 = x) with
  | none => rw [q] at h; cases h
  | some e =>
    rw [q] at h
    have h1 := List.find?_some q
    obtain ⟨i, hi⟩ := List.mem_iff_getElem?.mp (List.mem_of_find?_eq_some q)
    have : e.1 = x := of_decide_eq_true h1
    have e2 : e.2 = o := Option.some.inj h
    exact ⟨i, by rw [hi, ← this, ← e2]⟩
theorem lookC_mem {F : Came α} {x : α} (h : x ∈ ckeys F) : ∃ o, lookC F x = some o := by
  unfold lookC
  obtain ⟨e, he, rfl⟩ := List.mem_map.mp h
  cases q : F.find? fun z => decide (z.1 = e.1) with
  | none =>
    have := List.find?_eq_none.mp q e he
    simp at this
  | some z => exact ⟨_, rfl⟩
/-- the numbers from a goal back to the start -/
def backF (F : Came α) : Nat → α → List Int
  | 0, _ => []
  | n + 1, x => match lookC F x with
    | some (some (m, h)) => m :: backF F n h
    | _ => []
def wayF (F : Came α) (g : α) : List Int := (backF F 20 g).reverse
/-- a row of ties leads from a point to another one, gone either way -/
def Go (ts : List (Tie α)) : α → List Int → α → Prop
  | x, [], y => x = y
  | x, n :: ns, y => ∃ t ∈ ts, t.num = n ∧ ((t.tl = x ∧ Go ts t.hd ns y) ∨ (t.hd = x ∧ Go ts t.tl ns y))
theorem go_snoc {ts : List (Tie α)} {y : α} {t : Tie α} (ht : t ∈ ts) {z : α} (h : (t.tl = y ∧ t.hd = z) ∨ (t.hd = y ∧ t.tl = z)) : ∀ {ns : List Int} {x : α}, Go ts x ns y → Go ts x (ns ++ [t.num]) z
  | [], x, q => by
    have q : x = y := q
    subst q
    rcases h with ⟨h1, h2⟩ | ⟨h1, h2⟩
    · exact ⟨t, ht, rfl, .inl ⟨h1, h2⟩⟩
    · exact ⟨t, ht, rfl, .inr ⟨h1, h2⟩⟩
  | n :: ns, x, ⟨u, hu, e, q⟩ => ⟨u, hu, e, q.imp (fun q => ⟨q.1, go_snoc ht h q.2⟩) fun q => ⟨q.1, go_snoc ht h q.2⟩⟩
theorem back_go {ts : List (Tie α)} {s : α} {F : Came α} (I : CInv (adjF ts) s F) : ∀ (n i : Nat) (k : α) (o : Option (Int × α)), i < n → F[i]? = some (k, o) → Go ts s (backF F n k).reverse k
  | 0, i, k, o, hi, _ => by omega
  | n + 1, i, k, o, hi, hk => by
    unfold backF
    rw [lookC_at I.nd hk]
    rcases I.par i k o hk with ⟨_, rfl, rfl⟩ | ⟨m, h, j, o', rfl, hj, hq, hB⟩
    · exact rfl
    · show Go ts s (m :: backF F n h).reverse k
      rw [List.reverse_cons]
      obtain ⟨t, ht, rfl, e⟩ := mem_adjF.mp hB
      exact go_snoc ht e (back_go I n j h o' (by omega) hq)
theorem way_go {ts : List (Tie α)} {s g : α} {F : Came α} (I : CInv (adjF ts) s F) (hl : F.length ≤ 16) (hg : g ∈ ckeys F) : Go ts s (wayF F g) g := by
  obtain ⟨e, he, rfl⟩ := List.mem_map.mp hg
  obtain ⟨i, hi⟩ := List.mem_iff_getElem?.mp he
  have := (List.getElem?_eq_some_iff.mp hi).1
  exact back_go I 20 i e.1 e.2 (by omega) hi
theorem Go.mono {ts us : List (Tie α)} (h : ∀ t ∈ ts, t ∈ us) : ∀ {ns : List Int} {x y : α}, Go ts x ns y → Go us x ns y
  | [], _, _, q => q
  | _ :: _, _, _, ⟨t, ht, e, q⟩ => ⟨t, h t ht, e, q.imp (fun q => ⟨q.1, q.2.mono h⟩) fun q => ⟨q.1, q.2.mono h⟩⟩
/-- along a way that flips a colour at each tie -/
theorem go_flip {ts : List (Tie α)} {c : α → Bool} (hc : Proper ts c) : ∀ {ns : List Int} {x y : α}, Go ts x ns y → (c x = c y ↔ ns.length % 2 = 0)
  | [], x, y, q => by have q : x = y := q; subst q; simp
  | n :: ns, x, y, ⟨t, ht, _, q⟩ => by
    have ne := hc t ht
    rw [List.length_cons]
    rcases q with ⟨rfl, q⟩ | ⟨rfl, q⟩
    · have ih := go_flip hc q
      cases h1 : c t.tl <;> cases h2 : c t.hd <;> cases h3 : c y <;> simp_all <;> omega
    · have ih := go_flip hc q
      cases h1 : c t.tl <;> cases h2 : c t.hd <;> cases h3 : c y <;> simp_all <;> omega
end
end RB
/-! The plain law, part 3: pieces, colours, what hangs on the ends alone. -/
namespace RB
section
variable {α : Type} [DecidableEq α]
/-! ### pieces -/
def clsF (ts : List (Tie α)) (names : List α) (n : α) : List α := names.filter fun y => decide (rootsF ts y = rootsF ts n)
def pcsStep (ts : List (Tie α)) (names : List α) (acc : List (List α)) (n : α) : List (List α) := if clsF ts names n ∈ acc then acc else acc ++ [clsF ts names n]
def pcsF (ts : List (Tie α)) (names : List α) : List (List α) := names.foldl (pcsStep ts names) []
theorem mem_clsF {ts : List (Tie α)} {names : List α} {n x : α} : x ∈ clsF ts names n ↔ x ∈ names ∧ Conn ts n x := by
  unfold clsF
  rw [List.mem_filter, decide_eq_true_eq, roots_iff]
  exact ⟨fun h => ⟨h.1, h.2.symm⟩, fun h => ⟨h.1, h.2.symm⟩⟩
theorem clsF_eq {ts : List (Tie α)} {names : List α} {n m : α} (h : Conn ts n m) : clsF ts names n = clsF ts names m := by
  have e := (roots_iff ts n m).mpr h
  unfold clsF
  rw [e]
theorem pcs_len (ts : List (Tie α)) (names : List α) : ∀ (l : List α) (acc : List (List α)), (l.foldl (pcsStep ts names) acc).length ≤ acc.length + l.length
  | [], acc => by simp
  | n :: l, acc => by
    rw [List.foldl_cons]
    refine Nat.le_trans (pcs_len ts names l _) ?_
    unfold pcsStep
    split
    · simp
    · simp; omega
theorem mem_pcs {ts : List (Tie α)} {names : List α} {m : List α} : ∀ (l : List α) (acc : List (List α)), m ∈ l.foldl (pcsStep ts names) acc ↔ m ∈ acc ∨ ∃ y ∈ l, clsF ts names y = m
  | [], acc => by simp
  | n :: l, acc => by
    rw [List.foldl_cons, mem_pcs l]
    unfold pcsStep
    by_cases c : clsF ts names n ∈ acc
    · rw [if_pos c]
      constructor
      · rintro (h | ⟨y, hy, e⟩)
        · exact .inl h
        · exact .inr ⟨y, List.mem_cons_of_mem _ hy, e⟩
      · rintro (h | ⟨y, hy, e⟩)
        · exact .inl h
        · rcases List.mem_cons.mp hy with rfl | hy
          · exact .inl (e ▸ c)
          · exact .inr ⟨y, hy, e⟩
    · rw [if_neg c, List.mem_append, List.mem_singleton]
      constructor
      · rintro ((h | h) | ⟨y, hy, e⟩)
        · exact .inl h
        · exact .inr ⟨n, List.mem_cons_self, h.symm⟩
        · exact .inr ⟨y, List.mem_cons_of_mem _ hy, e⟩
      · rintro (h | ⟨y, hy, e⟩)
        · exact .inl (.inl h)
        · rcases List.mem_cons.mp hy with rfl | hy
          · exact .inl (.inr e.symm)
          · exact .inr ⟨y, hy, e⟩
theorem mem_pcsF {ts : List (Tie α)} {names : List α} {m : List α} : m ∈ pcsF ts names ↔ ∃ y ∈ names, clsF ts names y = m := by
  unfold pcsF
  rw [mem_pcs]
  simp
/-- whether a point's piece is told already -/
theorem told_iff {ts : List (Tie α)} {names done : List α} {n : α} (hd : ∀ y ∈ done, y ∈ names) : clsF ts names n ∈ done.foldl (pcsStep ts names) [] ↔ ∃ y ∈ done, Conn ts y n := by
  rw [mem_pcs]
  constructor
  · rintro (h | ⟨y, hy, e⟩)
    · cases h
    · refine ⟨y, hy, ?_⟩
      have : y ∈ clsF ts names n := by rw [← e]; exact mem_clsF.mpr ⟨hd y hy, .refl _⟩
      exact (mem_clsF.mp this).2.symm
  · rintro ⟨y, hy, c⟩
    exact .inr ⟨y, hy, clsF_eq c⟩
theorem cls_came {ts us : List (Tie α)} {names : List α} {n : α} (W : Within (adjF us) names) (hn : n ∈ names) (e : ∀ x y, Conn us x y ↔ Conn ts x y) : names.filter (fun y => decide (y ∈ ckeys (cameF (adjF us) n))) = clsF ts names n := by
  unfold clsF
  refine List.filter_congr fun y _ => ?_
  have h := came_keys W hn y
  rw [e] at h
  have q := roots_iff ts y n
  by_cases c : y ∈ ckeys (cameF (adjF us) n)
  · rw [decide_eq_true c, decide_eq_true (q.mpr (h.mp c).symm)]
  · rw [decide_eq_false c, decide_eq_false fun z => c (h.mpr (q.mp z).symm)]

/-! ### colours, the first of each piece nought -/
def firstF (ts : List (Tie α)) (names : List α) (k : α) : α := (names.find? fun y => decide (rootsF ts y = rootsF ts k)).getD k
def colF (ts : List (Tie α)) (names : List α) (c : α → Bool) (k : α) : Int := if c k = c (firstF ts names k) then 0 else 1
theorem first_eq {ts : List (Tie α)} {names : List α} {a b : α} (h : Conn ts a b) (ha : a ∈ names) : firstF ts names a = firstF ts names b := by
  have e := (roots_iff ts a b).mpr h
  unfold firstF
  rw [e]
  cases q : names.find? fun y => decide (rootsF ts y = rootsF ts b) with
  | some x => rfl
  | none =>
    have := List.find?_eq_none.mp q a ha
    simp [e] at this
theorem first_self {ts : List (Tie α)} {done rest : List α} {n : α} (h : ¬ ∃ y ∈ done, Conn ts y n) : firstF ts (done ++ n :: rest) n = n := by
  unfold firstF
  rw [List.find?_append]
  have : done.find? (fun y => decide (rootsF ts y = rootsF ts n)) = none := by
    rw [List.find?_eq_none]
    intro y hy
    rw [decide_eq_true_eq, roots_iff]
    exact fun c => h ⟨y, hy, c⟩
  rw [this]
  simp
theorem col_first {ts : List (Tie α)} {done rest : List α} {n : α} {c : α → Bool} (h : ¬ ∃ y ∈ done, Conn ts y n) : colF ts (done ++ n :: rest) c n = 0 := by
  unfold colF
  rw [first_self h, if_pos rfl]
theorem col_flip {ts : List (Tie α)} {names : List α} {a b : α} {c : α → Bool} (h : Conn ts a b) (ha : a ∈ names) (ne : c a ≠ c b) : colF ts names c b = 1 - colF ts names c a := by
  unfold colF
  rw [← first_eq h ha]
  cases h1 : c a <;> cases h2 : c b <;> cases h3 : c (firstF ts names a) <;> simp_all
theorem col_same {ts : List (Tie α)} {names : List α} {a b : α} {c : α → Bool} (h : Conn ts a b) (ha : a ∈ names) : colF ts names c a = colF ts names c b ↔ c a = c b := by
  unfold colF
  rw [← first_eq h ha]
  cases h1 : c a <;> cases h2 : c b <;> cases h3 : c (firstF ts names a) <;> simp_all
def properB (ts : List (Tie α)) (c : α → Bool) : Bool := ts.all fun t => decide (c t.tl ≠ c t.hd)
theorem properB_iff {ts : List (Tie α)} {c : α → Bool} : properB ts c = true ↔ Proper ts c := by
  unfold properB Proper
  rw [List.all_eq_true]
  exact ⟨fun h t ht => of_decide_eq_true (h t ht), fun h t ht => decide_eq_true (h t ht)⟩

/-! ### the same ends -/
def Core (t u : Tie α) : Prop := u.num = t.num ∧ u.tl = t.tl ∧ u.hd = t.hd
inductive All2 {β γ : Type} (R : β → γ → Prop) : List β → List γ → Prop
  | nil : All2 R [] []
  | cons {x y xs ys} : R x y → All2 R xs ys → All2 R (x :: xs) (y :: ys)
theorem All2.map {β γ : Type} {R : β → γ → Prop} {f : β → γ} : ∀ (l : List β), (∀ x ∈ l, R x (f x)) → All2 R l (l.map f)
  | [], _ => .nil
  | x :: l, h => .cons (h x List.mem_cons_self) (All2.map l fun y hy => h y (List.mem_cons_of_mem _ hy))
theorem All2.length {β γ : Type} {R : β → γ → Prop} {l : List β} {m : List γ} (h : All2 R l m) : l.length = m.length := by
  induction h with
  | nil => rfl
  | cons _ _ ih => simp [ih]
theorem core_adj {ts us : List (Tie α)} (h : All2 Core ts us) : adjF us = adjF ts := by
  funext x
  unfold adjF
  induction h with
  | nil => rfl
  | cons r _ ih =>
    rw [List.flatMap_cons, List.flatMap_cons, ih]
    unfold adjT
    rw [r.1, r.2.1, r.2.2]
theorem core_fold {ts us : List (Tie α)} (h : All2 Core ts us) : ∀ {r : α → α} {f g : List (Tie α)}, f.map (·.num) = g.map (·.num) → (us.foldl forStep (r, g)).1 = (ts.foldl forStep (r, f)).1 ∧ (us.foldl forStep (r, g)).2.map (·.num) = (ts.foldl forStep (r, f)).2.map (·.num) := by
  induction h with
  | nil => intro r f g e; exact ⟨rfl, e.symm⟩
  | @cons t u _ _ q _ ih =>
    intro r f g e
    rw [List.foldl_cons, List.foldl_cons]
    unfold forStep
    dsimp only
    rw [q.2.1, q.2.2]
    split
    · exact ih e
    · have : rootStep r u = rootStep r t := by
        funext x
        show (if r x = r u.hd then r u.tl else r x) = (if r x = r t.hd then r t.tl else r x)
        rw [q.2.1, q.2.2]
      rw [this]
      refine ih ?_
      rw [List.map_append, List.map_append, e]
      simp [q.1]
theorem core_forest {ts us : List (Tie α)} (h : All2 Core ts us) : (forestF us).map (·.num) = (forestF ts).map (·.num) := (core_fold h rfl).2
/-! ### the same ends, some turned -/
def Turned (t u : Tie α) : Prop := u.num = t.num ∧ ((u.tl = t.tl ∧ u.hd = t.hd) ∨ (u.tl = t.hd ∧ u.hd = t.tl))
theorem turned_mem {ts us : List (Tie α)} (h : All2 Turned ts us) : (∀ t ∈ ts, ∃ u ∈ us, Turned t u) ∧ ∀ u ∈ us, ∃ t ∈ ts, Turned t u := by
  induction h with
  | nil => exact ⟨fun t h => (nomatch h), fun t h => (nomatch h)⟩
  | cons r _ ih =>
    refine ⟨fun t ht => ?_, fun u hu => ?_⟩
    · rcases List.mem_cons.mp ht with rfl | ht
      · exact ⟨_, List.mem_cons_self, r⟩
      · obtain ⟨u, hu, q⟩ := ih.1 t ht; exact ⟨u, List.mem_cons_of_mem _ hu, q⟩
    · rcases List.mem_cons.mp hu with rfl | hu
      · exact ⟨_, List.mem_cons_self, r⟩
      · obtain ⟨t, ht, q⟩ := ih.2 u hu; exact ⟨t, List.mem_cons_of_mem _ ht, q⟩
theorem turned_conn {ts us : List (Tie α)} (h : All2 Turned ts us) (x y : α) : Conn us x y ↔ Conn ts x y := by
  obtain ⟨h1, h2⟩ := turned_mem h
  constructor
  · intro c
    induction c with
    | refl => exact .refl _
    | step _ e ih =>
      obtain ⟨u, hu, e⟩ := e
      obtain ⟨t, ht, _, q⟩ := h2 u hu
      refine .step ih ⟨t, ht, ?_⟩
      rcases q with ⟨a, b⟩ | ⟨a, b⟩
      · rw [← a, ← b]; exact e
      · rw [← a, ← b]; exact e.symm.imp (fun z => z) fun z => z
  · intro c
    induction c with
    | refl => exact .refl _
    | step _ e ih =>
      obtain ⟨t, ht, e⟩ := e
      obtain ⟨u, hu, _, q⟩ := h1 t ht
      refine .step ih ⟨u, hu, ?_⟩
      rcases q with ⟨a, b⟩ | ⟨a, b⟩
      · rw [a, b]; exact e
      · rw [a, b]; exact e.symm.imp (fun z => z) fun z => z
theorem turned_proper {ts us : List (Tie α)} (h : All2 Turned ts us) {c : α → Bool} (p : Proper ts c) : Proper us c := fun u hu => by
  obtain ⟨t, ht, _, q⟩ := (turned_mem h).2 u hu
  have := p t ht
  rcases q with ⟨a, b⟩ | ⟨a, b⟩
  · rw [a, b]; exact this
  · rw [a, b]; exact this.symm
theorem turned_proper' {ts us : List (Tie α)} (h : All2 Turned ts us) {c : α → Bool} (p : Proper us c) : Proper ts c := fun t ht => by
  obtain ⟨u, hu, _, q⟩ := (turned_mem h).1 t ht
  have := p u hu
  rcases q with ⟨a, b⟩ | ⟨a, b⟩
  · rw [a, b] at this; exact this
  · rw [a, b] at this; exact this.symm
theorem roots_dec {ts us : List (Tie α)} (h : ∀ x y, Conn us x y ↔ Conn ts x y) (x y : α) : decide (rootsF us x = rootsF us y) = decide (rootsF ts x = rootsF ts y) := by
  have : (rootsF us x = rootsF us y) ↔ (rootsF ts x = rootsF ts y) := by rw [roots_iff, roots_iff, h]
  by_cases c : rootsF ts x = rootsF ts y
  · rw [decide_eq_true c, decide_eq_true (this.mpr c)]
  · rw [decide_eq_false c, decide_eq_false fun z => c (this.mp z)]
theorem cls_congr {ts us : List (Tie α)} (h : ∀ x y, Conn us x y ↔ Conn ts x y) (names : List α) (n : α) : clsF us names n = clsF ts names n := by
  unfold clsF
  exact List.filter_congr fun y _ => roots_dec h y n
theorem pcs_congr {ts us : List (Tie α)} (h : ∀ x y, Conn us x y ↔ Conn ts x y) (names : List α) : pcsF us names = pcsF ts names := by
  unfold pcsF
  have : pcsStep us names = pcsStep ts names := by
    funext acc n
    unfold pcsStep
    rw [cls_congr h]
  rw [this]
theorem col_congr {ts us : List (Tie α)} (h : ∀ x y, Conn us x y ↔ Conn ts x y) (names : List α) (c : α → Bool) (k : α) : colF us names c k = colF ts names c k := by
  unfold colF firstF
  have : (fun y => decide (rootsF us y = rootsF us k)) = fun y => decide (rootsF ts y = rootsF ts k) := funext fun y => roots_dec h y k
  rw [this]
/-- each tie left out makes an even ring, just where the forest's colours are proper for all -/
theorem ring_even {ts : List (Tie α)} {c : α → Bool} (hc : Proper (forestF ts) c) {ns : List Int} {x y : α} (h : Go (forestF ts) x ns y) : (ns.length + 1) % 2 = 0 ↔ c y ≠ c x := by
  have := go_flip hc h
  constructor
  · intro e z
    have := this.mp z.symm
    omega
  · intro z
    have : ¬ ns.length % 2 = 0 := fun e => z (this.mpr e).symm
    omega
end
end RB
/-! The plain law, part 4: a web that changes. -/
namespace RB
structure Wb (α : Type) where
  names : List α
  ties : List (Tie α)
  given : Int
section
variable {α : Type} [DecidableEq α]
structure TieOk (w : Wb α) (t : Tie α) : Prop where
  low : 1 ≤ t.num
  high : t.num ≤ w.given
  ne : t.tl ≠ t.hd
  tl : t.tl ∈ w.names
  hd : t.hd ∈ w.names
  l0 : 0 ≤ t.load
  l1 : t.load ≤ 10 ^ 60
structure WOk (w : Wb α) : Prop where
  nd : w.names.Nodup
  len : w.names.length ≤ 16
  srt : w.ties.Pairwise fun a b => a.num < b.num
  tlen : w.ties.length ≤ 48
  tie : ∀ t ∈ w.ties, TieOk w t
  g0 : 0 ≤ w.given
theorem nums_nodup {ts : List (Tie α)} (h : ts.Pairwise fun a b => a.num < b.num) : (ts.map (·.num)).Nodup := by
  rw [List.nodup_iff_pairwise_ne, List.pairwise_map]
  exact h.imp fun q => by omega
/-- the tie of a number is one -/
theorem num_inj {ts : List (Tie α)} (h : ts.Pairwise fun a b => a.num < b.num) {t u : Tie α} (ht : t ∈ ts) (hu : u ∈ ts) (e : t.num = u.num) : t = u := by
  induction ts with
  | nil => cases ht
  | cons x ts ih =>
    obtain ⟨h1, h2⟩ := List.pairwise_cons.mp h
    rcases List.mem_cons.mp ht with e1 | ht <;> rcases List.mem_cons.mp hu with e2 | hu
    · rw [e1, e2]
    · have := h1 u hu
      rw [e1] at e
      omega
    · have := h1 t ht
      rw [e2] at e
      omega
    · exact ih h2 ht hu
theorem WOk.within {w : Wb α} (h : WOk w) : Within (adjF w.ties) w.names := within_adj h.len fun t ht => ⟨(h.tie t ht).tl, (h.tie t ht).hd⟩
theorem WOk.fwithin {w : Wb α} (h : WOk w) : Within (adjF (forestF w.ties)) w.names := within_adj h.len fun t ht => ⟨(h.tie t (forest_sub _ t ht)).tl, (h.tie t (forest_sub _ t ht)).hd⟩
/-! ### the deeds -/
def mv (a b : α) (t : Tie α) : Tie α := { t with tl := if t.tl = a then b else t.tl, hd := if t.hd = a then b else t.hd }
def Wb.putPoint (w : Wb α) (n : α) : Wb α := { w with names := w.names ++ [n] }
def Wb.dropPoint (w : Wb α) (n : α) : Wb α := { w with names := w.names.erase n }
def Wb.rename (w : Wb α) (a b : α) : Wb α := { w with names := w.names.map fun x => if x = a then b else x, ties := w.ties.map (mv a b) }
def Wb.putTie (w : Wb α) (a b : α) (l : Int) (o : Bool) : Wb α := { w with ties := w.ties ++ [⟨w.given + 1, a, b, l, o⟩], given := w.given + 1 }
def Wb.dropTie (w : Wb α) (n : Int) : Wb α := { w with ties := w.ties.filter fun t => decide (t.num ≠ n) }
def Wb.setLoad (w : Wb α) (n l : Int) : Wb α := { w with ties := w.ties.map fun t => if t.num = n then { t with load := l } else t }
def between (a b : α) (t : Tie α) : Bool := (decide (t.tl = a) || decide (t.hd = a)) && (decide (t.tl = b) || decide (t.hd = b))
def Wb.join (w : Wb α) (a b : α) : Wb α := { w with names := w.names.erase b, ties := (w.ties.filter fun t => !between a b t).map (mv b a) }
def Wb.part (w : Wb α) (a b : α) (ns : List Int) : Wb α := { w with names := w.names ++ [b], ties := w.ties.map fun t => if t.num ∈ ns then mv a b t else t }
theorem pairwise_map_num {ts : List (Tie α)} {f : Tie α → Tie α} (h : ts.Pairwise fun a b => a.num < b.num) (e : ∀ t, (f t).num = t.num) : (ts.map f).Pairwise fun a b => a.num < b.num := by
  rw [List.pairwise_map]
  exact h.imp fun q => by rw [e, e]; exact q
theorem nodup_snoc {l : List α} {x : α} (h : l.Nodup) (hx : x ∉ l) : (l ++ [x]).Nodup := by
  rw [List.nodup_append]
  refine ⟨h, by simp, fun a ha b hb => ?_⟩
  rw [List.mem_singleton] at hb
  subst hb
  rintro rfl
  exact hx ha
theorem TieOk.mono {w v : Wb α} {t : Tie α} (h : TieOk w t) (hn : ∀ x ∈ w.names, x ∈ v.names) (hg : w.given ≤ v.given) : TieOk v t :=
  ⟨h.low, Int.le_trans h.high hg, h.ne, hn _ h.tl, hn _ h.hd, h.l0, h.l1⟩
theorem wok_putPoint {w : Wb α} {n : α} (h : WOk w) (hn : n ∉ w.names) (hl : w.names.length < 16) : WOk (w.putPoint n) :=
  ⟨nodup_snoc h.nd hn, by show (w.names ++ [n]).length ≤ 16; simp; omega, h.srt, h.tlen, fun t ht => (h.tie t ht).mono (fun x hx => List.mem_append_left _ hx) (Int.le_refl _), h.g0⟩
theorem wok_dropPoint {w : Wb α} {n : α} (h : WOk w) (hf : ∀ t ∈ w.ties, t.tl ≠ n ∧ t.hd ≠ n) : WOk (w.dropPoint n) := by
  refine ⟨h.nd.erase _, Nat.le_trans (List.length_erase_le) h.len, h.srt, h.tlen, fun t ht => ?_, h.g0⟩
  have q := h.tie t ht
  exact ⟨q.low, q.high, q.ne, (List.mem_erase_of_ne (hf t ht).1).mpr q.tl, (List.mem_erase_of_ne (hf t ht).2).mpr q.hd, q.l0, q.l1⟩
theorem wok_rename {w : Wb α} {a b : α} (h : WOk w) (hb : b ∉ w.names) : WOk (w.rename a b) := by
  have key : ∀ x y : α, x ∈ w.names → y ∈ w.names → (if x = a then b else x) = (if y = a then b else y) → x = y := by
    intro x y hx hy e
    by_cases c1 : x = a <;> by_cases c2 : y = a
    · rw [c1, c2]
    · rw [if_pos c1, if_neg c2] at e
      exact absurd (e ▸ hy) hb
    · rw [if_neg c1, if_pos c2] at e
      exact absurd (e ▸ hx) hb
    · rw [if_neg c1, if_neg c2] at e
      exact e
  refine ⟨?_, by show (w.names.map _).length ≤ 16; rw [List.length_map]; exact h.len, pairwise_map_num h.srt fun t => rfl, by show (w.ties.map _).length ≤ 48; rw [List.length_map]; exact h.tlen, fun t ht => ?_, h.g0⟩
  · show (w.names.map _).Nodup
    rw [List.nodup_iff_pairwise_ne, List.pairwise_map]
    have := List.nodup_iff_pairwise_ne.mp h.nd
    exact this.imp_of_mem fun hx hy ne e => ne (key _ _ hx hy e)
  · obtain ⟨u, hu, rfl⟩ := List.mem_map.mp ht
    have q := h.tie u hu
    exact ⟨q.low, q.high, fun e => q.ne (key _ _ q.tl q.hd e), List.mem_map.mpr ⟨_, q.tl, rfl⟩, List.mem_map.mpr ⟨_, q.hd, rfl⟩, q.l0, q.l1⟩
theorem wok_putTie {w : Wb α} {a b : α} {l : Int} {o : Bool} (h : WOk w) (ha : a ∈ w.names) (hb : b ∈ w.names) (ne : a ≠ b) (h0 : 0 ≤ l) (h1 : l ≤ 10 ^ 60) (hl : w.ties.length < 48) : WOk (w.putTie a b l o) := by
  have g := h.g0
  refine ⟨h.nd, h.len, ?_, by show (w.ties ++ _).length ≤ 48; simp; omega, fun t ht => ?_, by show 0 ≤ w.given + 1; omega⟩
  · show (w.ties ++ _).Pairwise _
    rw [List.pairwise_append]
    refine ⟨h.srt, by simp, fun t ht u hu => ?_⟩
    rw [List.mem_singleton] at hu
    subst hu
    have := (h.tie t ht).high
    show t.num < w.given + 1
    omega
  · rcases List.mem_append.mp ht with ht | ht
    · exact (h.tie t ht).mono (fun x hx => hx) (by show w.given ≤ w.given + 1; omega)
    · rw [List.mem_singleton] at ht
      subst ht
      exact ⟨by show 1 ≤ w.given + 1; omega, Int.le_refl _, ne, ha, hb, h0, h1⟩
theorem wok_sub {w : Wb α} {ts : List (Tie α)} (h : WOk w) (hs : ts.Sublist w.ties) : WOk { w with ties := ts } :=
  ⟨h.nd, h.len, h.srt.sublist hs, Nat.le_trans hs.length_le h.tlen, fun t ht => (h.tie t (hs.subset ht)).mono (fun _ z => z) (Int.le_refl _), h.g0⟩
theorem wok_dropTie {w : Wb α} {n : Int} (h : WOk w) : WOk (w.dropTie n) := wok_sub h List.filter_sublist
theorem wok_setLoad {w : Wb α} {n l : Int} (h : WOk w) (h0 : 0 ≤ l) (h1 : l ≤ 10 ^ 60) : WOk (w.setLoad n l) := by
  refine ⟨h.nd, h.len, pairwise_map_num h.srt fun t => by split <;> rfl, by show (w.ties.map _).length ≤ 48; rw [List.length_map]; exact h.tlen, fun t ht => ?_, h.g0⟩
  obtain ⟨u, hu, rfl⟩ := List.mem_map.mp ht
  have q := h.tie u hu
  split
  · exact ⟨q.low, q.high, q.ne, q.tl, q.hd, h0, h1⟩
  · exact ⟨q.low, q.high, q.ne, q.tl, q.hd, q.l0, q.l1⟩
theorem wok_join {w : Wb α} {a b : α} (h : WOk w) (ha : a ∈ w.names) (ne : a ≠ b) : WOk (w.join a b) := by
  have sub : (w.ties.filter fun t => !between a b t).Sublist w.ties := List.filter_sublist
  refine ⟨h.nd.erase _, Nat.le_trans (List.length_erase_le) h.len, pairwise_map_num (h.srt.sublist sub) fun t => rfl, by show (List.map _ _).length ≤ 48; rw [List.length_map]; exact Nat.le_trans sub.length_le h.tlen, fun t ht => ?_, h.g0⟩
  obtain ⟨u, hu, rfl⟩ := List.mem_map.mp ht
  obtain ⟨hu, hb⟩ := List.mem_filter.mp hu
  have q := h.tie u hu
  have inn : ∀ x ∈ w.names, (if x = b then a else x) ∈ w.names.erase b := by
    intro x hx
    by_cases c : x = b
    · rw [if_pos c]; exact (List.mem_erase_of_ne ne).mpr ha
    · rw [if_neg c]; exact (List.mem_erase_of_ne c).mpr hx
  refine ⟨q.low, q.high, fun e => ?_, inn _ q.tl, inn _ q.hd, q.l0, q.l1⟩
  have e : (if u.tl = b then a else u.tl) = (if u.hd = b then a else u.hd) := e
  unfold between at hb
  have qn := q.ne
  by_cases c1 : u.tl = b <;> by_cases c2 : u.hd = b
  · exact qn (c1.trans c2.symm)
  · rw [if_pos c1, if_neg c2] at e
    simp [c1, ← e] at hb
  · rw [if_neg c1, if_pos c2] at e
    simp [c2, e] at hb
  · rw [if_neg c1, if_neg c2] at e
    exact qn e
theorem wok_part {w : Wb α} {a b : α} {ns : List Int} (h : WOk w) (hb : b ∉ w.names) (hl : w.names.length < 16) : WOk (w.part a b ns) := by
  refine ⟨nodup_snoc h.nd hb, by show (w.names ++ [b]).length ≤ 16; simp; omega, pairwise_map_num h.srt fun t => by split <;> rfl, by show (List.map _ _).length ≤ 48; rw [List.length_map]; exact h.tlen, fun t ht => ?_, h.g0⟩
  obtain ⟨u, hu, rfl⟩ := List.mem_map.mp ht
  have q := h.tie u hu
  have up : ∀ x ∈ w.names, x ∈ w.names ++ [b] := fun x hx => List.mem_append_left _ hx
  split
  · have inn : ∀ x ∈ w.names, (if x = a then b else x) ∈ w.names ++ [b] := by
      intro x hx
      split
      · simp
      · exact up x hx
    refine ⟨q.low, q.high, fun e => ?_, inn _ q.tl, inn _ q.hd, q.l0, q.l1⟩
    have e : (if u.tl = a then b else u.tl) = (if u.hd = a then b else u.hd) := e
    by_cases c1 : u.tl = a <;> by_cases c2 : u.hd = a
    · exact q.ne (c1.trans c2.symm)
    · rw [if_pos c1, if_neg c2] at e; exact hb (e ▸ q.hd)
    · rw [if_neg c1, if_pos c2] at e; exact hb (e ▸ q.tl)
    · rw [if_neg c1, if_neg c2] at e; exact q.ne e
  · exact ⟨q.low, q.high, q.ne, up _ q.tl, up _ q.hd, q.l0, q.l1⟩
theorem mv_none {a b : α} {t : Tie α} (h1 : t.tl ≠ a) (h2 : t.hd ≠ a) : mv a b t = t := by
  unfold mv
  rw [if_neg h1, if_neg h2]
/-- removing the first place of a thing -/
theorem eraseIdx_erase {l : List α} {x : α} {j : Nat} (h : l[j]? = some x) (no : ∀ m : Nat, m < j → l[m]? ≠ some x) : l.eraseIdx j = l.erase x := by
  induction l generalizing j with
  | nil => simp at h
  | cons y l ih =>
    cases j with
    | zero => simp at h; subst h; simp
    | succ j =>
      have ne : y ≠ x := fun e => no 0 (by omega) (by simp [e])
      have h' : l[j]? = some x := by simpa using h
      have := ih h' fun m hm => by simpa using no (m + 1) (by omega)
      rw [List.eraseIdx_cons_succ, this, List.erase_cons_tail (by simpa using ne)]
/-- a new name in the place of one that stands once -/
theorem set_map {l : List α} {x y : α} {j : Nat} (nd : l.Nodup) (h : l[j]? = some x) : l.set j y = l.map fun z => if z = x then y else z := by
  induction l generalizing j with
  | nil => simp at h
  | cons z l ih =>
    have hz := List.nodup_cons.mp nd
    cases j with
    | zero =>
      simp at h
      subst h
      rw [List.set_cons_zero, List.map_cons, if_pos rfl]
      congr 1
      have : l.map (fun u => if u = z then y else u) = l.map id := List.map_congr_left fun u hu => by
        rw [if_neg (fun (e : u = z) => hz.1 (e ▸ hu))]; rfl
      rw [this, List.map_id]
    | succ j =>
      have h' : l[j]? = some x := by simpa using h
      have ne : z ≠ x := fun e => hz.1 (e ▸ List.mem_of_getElem? h')
      rw [List.set_cons_succ, List.map_cons, if_neg ne, ih hz.2 h']
end
end RB
set_option maxHeartbeats 4000000
/-! Readings by name, and rules that the hand layer lacks: repr of nested lists, dict.update, a slice by a reckoned step, != of dicts of unlike length, list.remove of a text, the size of a set of one text told often. -/
namespace RB
open PySem PySem.Spec PyProof.Rows L2
/-! ### readings by name -/
abbrev oAdd : R2 := rI0 fun i j => .int (i + j)
abbrev oSub : R2 := rI0 fun i j => .int (i - j)
abbrev oMul : R2 := rI CMul fun i j => .int (i * j)
abbrev oDiv : R2 := rI CDivW fun i j => .int (i / j)
abbrev oMod : R2 := rI (fun _ j => 0 < j) fun i j => .int (i % j)
abbrev oPow : R2 := rI CPow fun i j => .int (i ^ j.toNat)
abbrev oShl : R2 := rI CPow fun i j => .int (i * 2 ^ j.toNat)
abbrev oLt : R2 := rI0 fun i j => .bl (decide (i < j))
abbrev oLe : R2 := rI0 fun i j => .bl (decide (i ≤ j))
abbrev oGt : R2 := rI0 fun i j => .bl (decide (j < i))
abbrev oGe : R2 := rI0 fun i j => .bl (decide (j ≤ i))
def oIsN : R2 := fun x y H Q => y = .non ∧ Q (.bl (decide (x = .non))) H
def oNotN : R2 := fun x y H Q => y = .non ∧ Q (.bl (!decide (x = .non))) H
def oAddS : R2 := fun x y H Q => ∃ i j, x = .str i ∧ y = .str j ∧ i.length + j.length ≤ sizeLine ∧ Q (.str (i ++ j)) H
def oInSg : R2 := fun x y H Q => ∃ (c : Nat) (z : Str), x = .str ⟨#[c]⟩ ∧ y = .str z ∧ Q (.bl (decide (c ∈ z.cps.toList))) H
def oNiSg : R2 := fun x y H Q => ∃ (c : Nat) (z : Str), x = .str ⟨#[c]⟩ ∧ y = .str z ∧ Q (.bl (!decide (c ∈ z.cps.toList))) H
abbrev CK := List V → Hp → VK → Prop
def cLenS : CK := fun xs H Q => ∃ z, xs = [.str z] ∧ z.length ≤ sizeLine ∧ Q (.int z.length) H
def cLenD : CK := fun xs H Q => ∃ a kvs, xs = [V.ref a] ∧ H a = some (.dK kvs) ∧ Q (.int kvs.length) H
def cLenL (K : PySem.W.Frag) : CK := fun xs H Q => ∃ p ys, xs = [.ref p] ∧ (SqL K H p ys ∨ SqT K H p ys) ∧ Q (.int ys.length) H
def cListL (K : PySem.W.Frag) : CK := fun xs H Q => ∃ p ys, xs = [.ref p] ∧ (SqL K H p ys ∨ SqT K H p ys) ∧ ∀ l, H l = none → Q (.ref l) (upd H l (.lst ys))
def cListD : CK := fun xs H Q => ∃ (a : Addr) (kvs : List (Key × V)), xs = [.ref a] ∧ Rd H a (.dK kvs) ∧ ∀ p, H p = none → Q (.ref p) (upd H p (.lst (kvs.map fun kv => kV kv.1)))
def cSortD : CK := fun xs H Q => ∃ (a : Addr) (kvs : List (Key × V)) (ks : List Int), xs = [.ref a] ∧ Rd H a (.dK kvs) ∧ kvs.map (·.1) = ks.map Sum.inl ∧ ks.length < 64 ∧
    ∀ (ys : List Int) (p : Addr), ys.Perm ks → ys.Pairwise (· ≤ ·) → H p = none → Q (.ref p) (upd H p (.lst (ys.map V.int)))
def cDictD : CK := fun xs H Q => ∃ (a : Addr) (kvs : List (Key × V)), xs = [.ref a] ∧ Rd H a (.dK kvs) ∧ ∀ p, H p = none → Q (.ref p) (upd H p (.dK kvs))
def cStrI : CK := fun xs H Q => ∃ i, xs = [.int i] ∧ i.natAbs.log2 < 1920 ∧ Q (.str (toString i)) H
def cIntS : CK := fun xs H Q => ∃ a n, xs = [.str a] ∧ PySem.intText? a = some n ∧ a.length ≤ 640 ∧ Q (.int n) H
def cInt1 : CK := fun xs H Q => (∃ i, xs = [.int i] ∧ Q (.int i) H) ∨ ∃ k, xs = [.bl k] ∧ Q (.int (if k then 1 else 0)) H
abbrev MK' := V → List V → Hp → VK → Prop
def mJoin (K : PySem.W.Frag) : MK' := fun x xs H Q => ∃ a p, ∃ ys : List Str, x = .str a ∧ xs = [.ref p] ∧ (SqL K H p (ys.map V.str) ∨ SqT K H p (ys.map V.str)) ∧ (ys.map (·.length)).sum + ys.length * a.length ≤ 16777216 ∧ Q (.str (Txt.join a ys)) H
def mSplit : MK' := fun x xs H Q => ∃ a b, x = .str a ∧ xs = [.str b] ∧ (b.length == 0) = false ∧ a.length + 2 ≤ sizeLine ∧ rNewStrs (Txt.split a b) H Q
section
variable {X : Cx}
/-! ### dicts of unlike length differ -/
def oNeL : R2 := fun x y H Q => ∃ a b ks ls, x = .ref a ∧ y = .ref b ∧ H a = some (.dK ks) ∧ H b = some (.dK ls) ∧ ks.length ≠ ls.length ∧ Q (.bl true) H
def oNeDK : R2 := fun x y H Q => rNeDA x y H Q ∨ oNeL x y H Q
theorem op_neDL (hu : X.A.units < cLine) : OpR X (compareOp .NotEq) oNeL := by
  intro pins s σ H x y v u Q I rx ry h
  obtain ⟨a, b, ks, ls, rfl, rfl, ha, hb, hne, q⟩ := h
  cases rx
  cases ry
  obtain ⟨_, ya, va, ra, da⟩ := dk_of I.hok ha
  obtain ⟨_, yb, vb, rb, db⟩ := dk_of I.hok hb
  have e : (va.length == vb.length) = false := by
    rw [← ra.length, ← rb.length]
    simpa using hne
  refine PySem.W.keq_ne (knd := mixKind X.prog X.w) (r := true) ya yb da db hu (fun z => ?_) ⟨.bl true, H, I, by rw [e] <;> rfl, q⟩
  rw [z] at e
  simp at e
theorem op_neDK (hu : X.A.units < cLine) : OpR X (compareOp .NotEq) oNeDK := OpR.or (op_ne_dictA hu) (op_neDL hu)
/-! ### d.update(e) -/
def tDUpd (td te : TE) : TE := fun σ H Q => td σ H fun x H1 => ∃ a, x = .ref a ∧ IsD H1 a ∧ te σ H1 fun y H2 => ∃ (b : Addr) (ka kb : List (Key × V)), y = .ref b ∧ a ≠ b ∧ H2 a = some (.dK ka) ∧ H2 b = some (.dK kb) ∧ ka.length + kb.length ≤ sizeLine ∧ Q .non (upd H2 a (.dK (mergeK ka kb)))
theorem pe_dupd {o e : Expr} {td te : TE} {apos cpos : Pos} (ho : PE X o td) (he : PE X e te) (m : M1 X o "update" apos e cpos) : PE X (.Call (.Attribute o "update" apos) [e] [] cpos) (tDUpd td te) := by
  refine ⟨fun pins s σ H Q I h => ?_⟩
  refine wpAny_Call_method m.base m.few m.line PySem.F.plainAttrs_dict PySem.F.slot_dict_update PySem.F.type_dict_update (thn (ho.run pins s σ H _ I h) fun u s1 z => ?_)
  obtain ⟨x, H1, I1, rx, a, rfl, d, q1⟩ := z
  cases rx
  obtain ⟨t1, t2, _⟩ := isD_at I1 d
  refine ⟨t1, t2, ?_⟩
  rw [m.trees]
  refine Calls.callWith_builtin rfl (Calls.evalArgs_plain (Calls.spliced_cons (thn (he.run pins s1 σ H1 _ I1 q1) fun v s2 z => Calls.spliced_nil ?_)))
  obtain ⟨y, H2, I2, ry, b, ka, kb, rfl, hne, ha, hb, hl, q⟩ := z
  cases ry
  obtain ⟨_, na, va, ra, da⟩ := dk_of I2.hok ha
  obtain ⟨_, nb, vb, rb, db⟩ := dk_of I2.hok hb
  have sz : va.length + vb.length ≤ sizeLine := by rw [← ra.length, ← rb.length]; exact hl
  refine call_meetsIn PySem.F.slot_dict_update da.typeIs PySem.F.entry_dict_update (PySem.F.args_dict_update_2 _ _) (meets_dict_update (mixKind X.prog X.w) a b hne nb) ⟨va, vb, da, db, sz, fun h' hd' _ hs => ?_⟩
  obtain ⟨ob, es, ep, hob, hrest⟩ := id hd'
  exact ⟨.non, upd H2 a (.dK (mergeK ka kb)), d_write (t' := s2.toks) I2 (by rw [ha]; trivial) hs ⟨ob, hob⟩ (dk_new (Nat.le_trans (length_mergeK kb ka) hl) na (KV.merge rb ra) hd'), rfl, q⟩
/-! ### xs[::e], e one or minus one -/
def tSlStep (K : PySem.W.Frag) (te ts : TE) : TE := fun σ H Q => te σ H fun x H1 => ts σ H1 fun y H2 => ∃ a xs, x = .ref a ∧ SqL K H2 a xs ∧
  ((y = .int 1 ∧ ∀ p, H2 p = none → Q (.ref p) (upd H2 p (.lst xs))) ∨ (y = .int (-1) ∧ ∀ p, H2 p = none → Q (.ref p) (upd H2 p (.lst xs.reverse))))
theorem bounds_one (n : Nat) : sliceBounds none none (some 1) n = (0, (n : Int), 1) := by
  simp [sliceBounds]
theorem range_one (n : Nat) : sliceRange 0 (n : Int) 1 = List.range n := by
  unfold sliceRange
  simp only [show ((1 : Int) > 0) from by decide, if_true]
  by_cases h : (0 : Int) < n
  · simp only [h, if_true]
    have e : ((n : Int) - 0 + 1 - 1) / 1 = n := by rw [Int.ediv_one]; omega
    rw [e, Int.toNat_natCast]
    conv => rhs; rw [← List.map_id (List.range n)]
    refine List.map_congr_left fun k _ => ?_
    show ((0 : Int) + 1 * (k : Int)).toNat = k
    omega
  · have : n = 0 := by omega
    subst this
    rfl
theorem pick_one (items : Array Value) : slicePick items none none (some 1) = items := by
  unfold slicePick
  rw [bounds_one]
  show ((sliceRange 0 (items.size : Int) 1).filterMap (items[·]?)).toArray = items
  rw [range_one, PySem.W.krv_all]
theorem pe_slStep {e f : Expr} {te ts : TE} {p3 pos : Pos} (he : PE X e te) (hf : PE X f ts) : PE X (.Subscript e (.Slice none none (some f) p3) pos) (tSlStep X.K te ts) := by
  refine ⟨fun pins s σ H Q I h => ?_⟩
  refine Subscript_ (thn (he.run pins s σ H _ I h) fun v s1 z => ?_)
  obtain ⟨x, H1, I1, r1, q1⟩ := z
  refine wpAny_Slice (thn (po_none.run pins s1 σ H1 (fun o H2 => o = none ∧ H2 = H1) I1 ⟨rfl, rfl⟩) fun vl s2 z => ?_)
  obtain ⟨l, H2, I2, pl, rfl, rfl⟩ := z
  refine thn (po_none.run pins s2 σ H2 (fun o H3 => o = none ∧ H3 = H2) I2 ⟨rfl, rfl⟩) fun vu s3 z => ?_
  obtain ⟨u, H3, I3, pu, rfl, rfl⟩ := z
  refine thn (hf.run pins s3 σ H3 _ I3 q1) fun vs s4 z => ?_
  obtain ⟨y, H4, I4, ry, a, xs, rfl, hx, q⟩ := z
  cases r1
  have I5 : Inv X pins σ H4 { s4 with heap := s4.heap.push { cls := .type "slice", data := .fields #[vl, vu, vs] } } := I4.kept (t' := s4.toks) fun b ob q => Heap.get?_push_of_some _ q
  obtain ⟨its, r, hl, hz⟩ := I5.list hx
  have hlen := r.length
  have sz : its.toArray.size ≤ sizeLine := by rw [List.size_toArray]; omega
  show wpAny (model X.prog X.w) X.A (subscriptTail e (.Slice none none (some f) p3) (.ref a) (.ref s4.heap.objs.size)) (EP X pins σ Q) X.xe { s4 with heap := s4.heap.push { cls := .type "slice", data := .fields #[vl, vu, vs] } }
  refine tail_any (ops := [.ref a, .ref s4.heap.objs.size]) hl.isList.typeIs (PySem.slot_list_getitem.lookup) ?_ (by with_unfolding_all rfl)
  rcases q with ⟨rfl, q⟩ | ⟨rfl, q⟩
  · obtain ⟨t, rfl⟩ := ry
    refine wpAny_getItem_list_slice hl.isList (Heap.IsSliceOf.new _ vl vu _) pl pu (.int 1 t) (by decide) ?_ sz
    rw [pick_one]
    exact ⟨.ref _, _, I5.laid (t' := s4.toks) (o := .lst xs) (fun b ob q => Heap.get?_push_of_some _ q) (Nat.le_refl _) ⟨hz, its, 0, r, Heap.get?_push_size _ rfl⟩, rfl, q _ (I5.hok.fresh (Nat.le_refl _))⟩
  · obtain ⟨t, rfl⟩ := ry
    refine wpAny_getItem_list_slice hl.isList (Heap.IsSliceOf.new _ vl vu _) pl pu (.int (-1) t) (by decide) ?_ sz
    rw [PySem.W.krv_pick]
    exact ⟨.ref _, _, I5.laid (t' := s4.toks) (o := .lst xs.reverse) (fun b ob q => Heap.get?_push_of_some _ q) (Nat.le_refl _) ⟨by rw [List.length_reverse]; exact hz, its.reverse, 0, r.reverse, Heap.get?_push_size _ rfl⟩, rfl, q _ (I5.hok.fresh (Nat.le_refl _))⟩
/-! ### xs.remove(a text) -/
def isTxt (k : Str) (v : Value) : Bool := match v with
  | .str n _ => decide (n = k)
  | _ => false
theorem txt_gives {k : Str} {t : Tok} : ∀ {us : List Value} {ns : List Str}, StrsAre us ns → ∀ y ∈ us, MeetsSeq.EqGives y (.str k t) (isTxt k y)
  | _, _, .nil, y, hy => by cases hy
  | _, _, .cons n t' h, y, hy => by
    rcases List.mem_cons.mp hy with rfl | hy
    · exact fun _ _ _ _ _ _ q => wpAny_eqBool_str q
    · exact txt_gives h y hy
theorem txt_at : ∀ {us : List Value} {ns : List Str}, StrsAre us ns → ∀ {i : Nat} {x : Str}, ns[i]? = some x → ∃ t, us[i]? = some (.str x t)
  | _, _, .nil, i, x, h => by simp at h
  | _, _, .cons n t' h, 0, x, e => by simp at e; subst e; exact ⟨t', rfl⟩
  | _, _, .cons n t' h, i + 1, x, e => by
    obtain ⟨t, q⟩ := txt_at h (i := i) (x := x) (by simpa using e)
    exact ⟨t, by simpa using q⟩
theorem map_eraseIdx {α β : Type} (f : α → β) : ∀ (l : List α) (j : Nat), (l.eraseIdx j).map f = (l.map f).eraseIdx j
  | [], j => by simp
  | a :: r, 0 => by simp
  | a :: r, j + 1 => by simp [map_eraseIdx f r j]
def mRemS : MK' := fun x xs H Q => ∃ (l : Addr) (ns : List Str) (k : Str) (j : Nat), x = .ref l ∧ xs = [.str k] ∧ H l = some (.lst (ns.map V.str)) ∧ ns[j]? = some k ∧ (∀ m : Nat, m < j → ns[m]? ≠ some k) ∧ Q .non (upd H l (.lst ((ns.eraseIdx j).map V.str)))
theorem mt_removeS : MtM X "list.remove" mRemS := by
  intro pins s σ H x xs v us Q I rx rxs h
  obtain ⟨l, ns, k, j, rfl, rfl, hH, hj, hno, q⟩ := h
  cases rx
  obtain ⟨u, rfl, ru⟩ := rxs.one
  obtain ⟨t, rfl⟩ := ru
  obtain ⟨z, its, n, r, hl, e⟩ := I.lstM hH
  have hi := Vals.strs r
  rw [List.length_map] at hl z
  have hjn : j < ns.length := (List.getElem?_eq_some_iff.mp hj).1
  have hjl : j < its.toArray.size := by rw [List.size_toArray]; omega
  refine call_meets PySem.F.slot_list_remove ⟨_, e, rfl⟩ PySem.F.entry_list_remove (PySem.F.args_list_remove_2 _ _)
    (MeetsSeq.list_remove l its.toArray n (.str k t) (isTxt k) (fun y hy => txt_gives hi y (by simpa using hy)) j hjl ?_ ?_ (by rw [List.size_toArray]; omega)) ⟨e, ?_⟩
  · obtain ⟨tj, hjt⟩ := txt_at hi hj
    obtain ⟨h1, h2⟩ := List.getElem?_eq_some_iff.mp hjt
    have e1 : its.toArray[j] = .str k tj := by simpa using h2
    rw [e1]
    exact decide_eq_true rfl
  · intro m hm hmj
    have hmn : m < ns.length := by omega
    obtain ⟨tm, hmt⟩ := txt_at hi (List.getElem?_eq_getElem hmn)
    obtain ⟨h1, h2⟩ := List.getElem?_eq_some_iff.mp hmt
    have e1 : its.toArray[m] = .str ns[m] tm := by simpa using h2
    rw [e1]
    refine decide_eq_false fun e2 => hno m hmj ?_
    rw [List.getElem?_eq_getElem hmn, e2]
  · have rr := r.eraseIdx j
    rw [← map_eraseIdx] at rr
    refine ⟨.non, _, I.lset (its' := its.eraseIdx j) (t' := s.toks) hH e ?_ rr ?_, rfl, q⟩
    · show its.toArray.eraseIdxIfInBounds j = (its.eraseIdx j).toArray
      rw [List.eraseIdxIfInBounds_toArray]
    · have z2 := List.length_eraseIdx_le ns j
      rw [List.length_map]
      omega
/-! ### repr of data -/
def cReprD (K : PySem.W.Frag) : CK := fun xs H Q => ∃ (a : Addr) (d : PyData), xs = [.ref a] ∧ Dp K H (.ref a) d ∧ d.showable = true ∧ d.hasDict = false ∧ d.shown.length ≤ sizeLine ∧ d.depth ≤ 40 ∧ Q (.str d.shown) H
theorem call_reprD (hu : X.A.units + 64 < cLine) (hg : X.A.guards = some []) : CallR X (.builtin "repr") (cReprD X.K) := by
  intro pins s σ H xs us Q I r h
  obtain ⟨a, d, rfl, hd, hs, hn, hz, hp, q⟩ := h
  obtain ⟨u, rfl, ru⟩ := vals1 r
  obtain ⟨as, rd⟩ := Dp.reads I d (.ref a) u hd ru
  cases ru
  refine repr_of_reads' rd hs (fun z => by rw [hn] at z; cases z) hg (by omega) (fun _ _ e => e) (fun h' w tk k => ⟨.str d.shown, H, I.kept (t' := tk) k, ⟨_, rfl⟩, q⟩) hz
end
end RB
set_option maxHeartbeats 4000000
/-! len(set(xs)), xs one text told any number of times. -/
namespace RB
open PySem PySem.Spec PyProof.Rows L2
/-- what a set of one text holds when i items are in -/
def oneIn (x : Str) (i : Nat) : Str → Bool := fun k => decide (0 < i) && decide (k = x)
section
variable {prog : Program} {w : World} {A : Around} {R : Result → Shared → Prop} {I : Addr} {fp wr : List Addr} {G : Array GenState → Array GenState → Prop} {n : Nat} {P : Nat → Value → Prop} {St : Nat → Shared → Prop}
theorem setMove {h h' : Heap} {S : Addr} {f : Str → Bool} {c : Nat} (hS : h.SetOf (PySem.strKind prog w) S f c) (k : ∀ o, h.get? S = some o → h'.get? S = some o) : h'.SetOf (PySem.strKind prog w) S f c := by
  obtain ⟨o, es, ep, t, ho, q⟩ := hS
  exact ⟨o, es, ep, t, k o ho, q⟩
theorem fill_same (W : WalksS prog w A.in1 I fp wr G n P St) (S : Addr) (out : S ∉ fp) (x : Str) (val : ∀ i v, P i v → ∃ t, v = .str x t) :
    ∀ (m i : Nat) (s : Shared), i + m = n → St i s → s.heap.SetOf (PySem.strKind prog w) S (oneIn x i) (min i 1) →
      (∀ s', Moved (S :: wr) G s s' → s'.heap.SetOf (PySem.strKind prog w) S (oneIn x n) (min n 1) → R (.ok (.ret .none)) s') →
      codeAny (model prog w) A (.builtin "set.update.loop" ⟨[.ref S, .ref I], []⟩) R s := by
  have nw : S ∉ wr := fun h => out (W.sub _ h)
  have sub : ∀ b ∈ wr, b ∈ S :: wr := fun b hb => List.mem_cons_of_mem _ hb
  intro m
  induction m with
  | zero =>
    intro i s e st hS fin
    obtain rfl : i = n := by omega
    refine codeAny_builtin PyProof.Rows.F.entry_set_update_loop ?_
    rw [Around.under_plainId PyProof.Rows.F.plain_set_update_loop _]
    refine wpAny_bind (W.done s _ _ st fun s' mv => ?_)
    exact wpAny_pure (fin s' (mv.mono sub) (setMove hS fun o q => mv.heap S _ nw q))
  | succ m ih =>
    intro i s e st hS fin
    refine codeAny_builtin PyProof.Rows.F.entry_set_update_loop ?_
    rw [Around.under_plainId PyProof.Rows.F.plain_set_update_loop _]
    refine wpAny_bind (W.item i s _ _ (by omega) st fun v s' hv st' mv => ?_)
    obtain ⟨t, rfl⟩ := val i v hv
    have hS1 := setMove hS fun o q => mv.heap S _ nw q
    refine wpAny_bind (wpAny_holding ?_)
    unfold setAdd
    refine wpAny_holding ?_
    refine wpAny_bind ((PySem.strKind prog w).pyHash (k := x) (strKind_is _ _ _ _) ?_)
    refine wpAny_setAddHashed_of (knd := PySem.strKind prog w) (s := { s' with toks := s'.toks + 1 }) (strKind_is _ _ _ _) rfl hS1 (by unfold scanBound; omega) fun h' sb hS2 => ?_
    have hS3 : h'.SetOf (PySem.strKind prog w) S (oneIn x (i + 1)) (min (i + 1) 1) := by
      refine SetOf_congr hS2 (fun k => ?_) ?_
      · show (oneIn x i k || decide (k = x)) = oneIn x (i + 1) k
        unfold oneIn
        by_cases hk : k = x <;> simp [hk]
      · unfold oneIn
        by_cases hi : 0 < i
        · simp [hi]; omega
        · obtain rfl : i = 0 := by omega
          simp
    refine wpAny_pure ⟨plainId_quiet PyProof.Rows.F.plain_set_update_loop _, ih (i + 1) _ (by omega) (W.frame _ s' _ _ st' (Nat.le_succ _) fun b hb o q => (sb.2 b fun z => out (z ▸ hb)).trans q) hS3 fun s2 mv2 hS4 => ?_⟩
    refine fin s2 (Moved.trans W.gtrans ((mv.mono sub).then_heap (Nat.le_succ _) fun b o hb q => (sb.2 b fun z => hb (z ▸ List.mem_cons_self)).trans q) mv2) hS4
end
section
variable {prog : Program} {w : World} {A : Around} {E : Value → Shared → Prop} {s : Shared}
theorem set_of_same {l : Addr} {items : Array Value} {x : Str} {Q : Value → Shared → Prop} (hh : A.handled = none) (hl : s.heap.IsList l items) (val : ∀ (i : Nat) (v : Value), items[i]? = some v → ∃ t, v = Value.str x t)
    (h : ∀ (h' : Heap) (tk : Nat), h'.SetOf (PySem.strKind prog w) s.heap.objs.size (oneIn x items.size) (min items.size 1) → (∀ b o, s.heap.get? b = some o → h'.get? b = some o) → Q (.ref s.heap.objs.size) { s with heap := h', toks := tk }) :
    wpAny (model prog w) A (call (.type "set") [.ref l]) Q E s := by
  obtain ⟨c, tl, hmro⟩ := PySem.F.called_set.mro
  have hmade := PySem.F.called_set.made
  have hsub := PySem.F.called_set.sub
  have h1 := PySem.F.called_set.notType
  have h2 := PySem.F.called_set.canCreate
  have h3 := PySem.F.typeCall_set_1 (.ref l)
  refine wpAny_call (codeAny_of_tree ?_)
  show wpAny _ _ (callAny (.type "set") _) _ _ _
  refine wpAny_pure ⟨Code.quiet_builtin _ (by decide +kernel), codeAny_builtin PySem.F.entry_type_call ?_⟩
  rw [Around.under_plain (weight_type_call_type "set" [.ref l] []) rfl]
  repeat (any_goals (first | assumption | wp_step))
  refine codeAny_mono (code_set_new_1 (.ref l) (E := E) (Q₁ := fun obj s₁ => ∃ led : Bool, obj = .ref s.heap.objs.size ∧ s₁ = { s with heap := s.heap.push { cls := .type "set", dict := none, data := .set #[] 0 (.fresh 0 0 led) } }) fun led => ⟨led, rfl, rfl⟩) fun r s₁ hr => ?_
  cases r with
  | error e => exact hr
  | ok fl =>
    cases fl with
    | ret obj =>
      obtain ⟨led, rfl, rfl⟩ := hr
      have here : (s.heap.push { cls := .type "set", dict := none, data := .set #[] 0 (.fresh 0 0 led) }).get? s.heap.objs.size = some { cls := .type "set", dict := none, data := .set #[] 0 (.fresh 0 0 led) } := Heap.get?_push_size _ rfl
      have ty : Shared.TypeIs { s with heap := s.heap.push { cls := .type "set", dict := none, data := .set #[] 0 (.fresh 0 0 led) } } (.ref s.heap.objs.size) "set" := ⟨_, here, rfl⟩
      have i1 := PySem.F.called_set.init.lookup
      have i2 := PySem.F.called_set.init.bind (.ref s.heap.objs.size)
      repeat (any_goals (first | assumption | wp_step))
      refine codeAny_mono (codeAny_call_builtin (R := wants (fun r s₂ => r = .none ∧ ∃ h' tk, s₂ = { s with heap := h', toks := tk } ∧
          h'.SetOf (PySem.strKind prog w) s.heap.objs.size (oneIn x items.size) (min items.size 1) ∧ (∀ b o, s.heap.get? b = some o → h'.get? b = some o)) E) PySem.F.called_set.init.plain PySem.F.entry_set_init (check_set_init_1 ty ?_)) fun r₂ s₂ hr₂ => ?_
      · have hlt : l < s.heap.objs.size := by obtain ⟨o, ho, _⟩ := hl; exact Heap.lt_size ho
        obtain ⟨⟨oc, od, dt, osl⟩, ho, hc, nl, hd⟩ := id hl
        simp only at hc hd
        subst hc
        subst hd
        have ho' : (s.heap.push { cls := .type "set", dict := none, data := .set #[] 0 (.fresh 0 0 led) }).get? l = some { cls := .type "list", dict := od, data := .seq items nl, slots := osl } := Heap.get?_push_of_some _ ho
        have f1 := PySem.F.sub_list_set
        have f2 := PySem.F.sub_list_frozenset
        have f3 : (Value.type "list" == Value.type "dict") = false := by decide
        have hl1 : (s.heap.push { cls := .type "set", dict := none, data := .set #[] 0 (.fresh 0 0 led) }).IsList l items := ⟨_, ho', rfl, nl, rfl⟩
        unfold Builtin.«set.__init__» noKeywords Builtin.Frozenset.updateFrom
        generalize hPI : pyIter = PI
        wp_walk
        subst hPI
        refine wpAny_pyIter_list hl1 ?_
        refine wpAny_bind (wpAny_runValue ?_)
        have h3' : A.in1.in1.in1.handled = none := by simp [hh]
        have sz : (s.heap.push { cls := .type "set", dict := none, data := .set #[] 0 (.fresh 0 0 led) }).objs.size = s.heap.objs.size + 1 := Heap.size_push ..
        have nI : l ≠ (s.heap.push { cls := .type "set", dict := none, data := .set #[] 0 (.fresh 0 0 led) }).objs.size := by rw [sz]; exact Nat.ne_of_lt (Nat.lt_succ_of_lt hlt)
        have out : s.heap.objs.size ∉ [(s.heap.push { cls := .type "set", dict := none, data := .set #[] 0 (.fresh 0 0 led) }).objs.size, l] := by
          rw [sz]
          intro z
          rcases List.mem_cons.mp z with z | z
          · exact Nat.ne_of_lt (Nat.lt_succ_self _) z
          · exact Nat.ne_of_gt hlt (List.mem_singleton.mp z)
        refine fill_same ((Walks.list h3' _ l nI items).toS) s.heap.objs.size out x val items.size 0 _ (by omega) ⟨⟨_, Heap.get?_push_size _ rfl, rfl, rfl⟩, hl1.push _⟩ ?_ ?_
        · have here2 : ((s.heap.push { cls := .type "set", dict := none, data := .set #[] 0 (.fresh 0 0 led) }).push { cls := .type "list_iterator", data := .fields #[.ref l, .int 0 0] }).get? s.heap.objs.size
              = some { cls := .type "set", dict := none, data := .set #[] 0 (.fresh 0 0 led) } := Heap.get?_push_of_some _ here
          exact SetOf_congr ((setObjOf_fresh (knd := PySem.strKind prog w) led).setOf here2 (by unfold scanBound; omega)) (fun k => by simp [oneIn]) rfl
        · intro s' mv hS'
          obtain ⟨h', g', d', tk', os'⟩ := s'
          obtain rfl : g' = s.gens := mv.gens
          obtain rfl : d' = s.drawn := mv.drawn
          obtain rfl : os' = s.os := mv.os
          refine wpAny_pure ?_
          refine wpAny_pure ⟨rfl, h', tk', rfl, hS', fun b o q => ?_⟩
          have hb := Heap.lt_size q
          refine mv.heap b o ?_ (Heap.get?_push_of_some _ (Heap.get?_push_of_some _ q))
          intro z
          rcases List.mem_cons.mp z with z | z
          · exact Nat.ne_of_lt hb z
          · have z := List.mem_singleton.mp z
            rw [sz] at z
            exact Nat.ne_of_lt (Nat.lt_succ_of_lt hb) z
      · cases r₂ with
        | error e => exact hr₂
        | ok fl₂ =>
          cases fl₂ with
          | ret r =>
            obtain ⟨rfl, h', tk, rfl, hS', hk'⟩ := hr₂
            repeat (any_goals (first | assumption | wp_step))
            exact h _ _ hS' hk'
          | _ => exact hr₂.elim
    | _ => exact hr.elim
end
section
variable {X : Cx}
def tLenSetR (K : PySem.W.Frag) (ta : TE) : TE := fun σ H Q => ta σ H fun x H1 => ∃ (l : Addr) (n : Nat) (z : Str), x = .ref l ∧ SqL K H1 l (List.replicate n (V.str z)) ∧ 0 < n ∧ Q (.int 1) H1
theorem same_at {z : Str} : ∀ {n : Nat} {us : List Value}, Vals (List.replicate n (V.str z)) us → ∀ {i : Nat} {v : Value}, us[i]? = some v → ∃ t, v = .str z t := fun {n us} r i v e => by
  obtain ⟨x, hx, rx⟩ : ∃ x, (List.replicate n (V.str z))[i]? = some x ∧ RelV x v := by
    cases q : (List.replicate n (V.str z))[i]? with
    | none => rw [Vals.none_of r q] at e; cases e
    | some x =>
      obtain ⟨u, e2, rx⟩ := Vals.get r q
      rw [e] at e2
      cases e2
      exact ⟨x, rfl, rx⟩
  have := List.eq_of_mem_replicate (List.mem_of_getElem? hx)
  subst this
  exact rx
theorem pe_lenSetR {a : Expr} {ta : TE} {p p2 q pos : Pos} (hc : X.calm = true) (hg : Gl X "len") (hm : X.mg "len" = none) (hg2 : Gl X "set") (hm2 : X.mg "set" = none) (ha : PE X a ta)
    (na : starEach [a] X.env = (false, eval a X.env) :: starEach [] X.env := by rfl) : PE X (.Call (.Name "len" p) [.Call (.Name "set" p2) [a] [] q] [] pos) (tLenSetR X.K ta) := by
  refine ⟨fun pins s σ H Q I h => ?_⟩
  refine Call_ (ld_blt I hg hm boot_len ?_)
  refine PyProof.Rows.callWith_builtin1 (PyProof.Rows.args_cons ?_ rfl) rfl rfl
  refine Call_ (ld_blt I hg2 hm2 boot_set ?_)
  refine PyProof.Rows.callWith_type1 (PyProof.Rows.args_cons (thn (ha.run pins s σ H _ I h) fun v s1 y => PyProof.Rows.args_nil ?_) na) na rfl
  obtain ⟨x, H1, I1, r1, l, n, z, rfl, hq, hn, q1⟩ := y
  cases r1
  obtain ⟨its, r, pl, hz⟩ := I1.list hq
  refine set_of_same (I1.ok.hd hc) pl.isList (fun i v e => same_at r (by simpa using e)) fun h' tk hS k => ?_
  refine PyProof.Rows.args_nil ?_
  have sz : its.toArray.size = n := by rw [List.size_toArray, ← r.length, List.length_replicate]
  have one : min its.toArray.size 1 = 1 := by omega
  rw [one] at hS
  obtain ⟨o, es, ep, t, ho, hex, hd, _, _, _, hf, hc1⟩ := hS
  exact call_len_set ho hex hd hf (by rw [hc1]; decide) ⟨.int 1, H1, (I1.kept k).tok _, ⟨_, by rw [hc1] <;> rfl⟩, q1⟩
end
end RB
set_option maxHeartbeats 4000000
/-! A def's promise where nothing is being shown around the call (no repr runs): for the defs that call repr, and the law's end. -/
namespace RB
open PySem PySem.Spec PyProof.Rows L2
/-- FnOk, where no guard stands around -/
structure FnOkG (P : Program) (w : World) (K : PySem.W.Frag) (mg : Str → Option Value) (base : Heap) (k : Nat) (f : Addr) (fd : FuncData) (ps : List Str) (sp : Sp) : Prop where
  len : ∀ vs H Q E, sp vs H Q E → vs.length = ps.length
  run : ∀ (A : Around) (outer : List Env) (s : Shared) (H : Hp) (args : Args) (us : List Value) (vs : List V) (Q : VK) (E : XK), A.guards = some [] → Room k A → Env0 P w K mg base A outer s H → BindsTo s fd args (ps.zip us) → Vals vs us → sp vs H Q E →
    codeAny (model P w) A (.call (.ref f) args) (CR CX0 outer P w H s Q E) s
section
variable {P : Program} {w : World} {K : PySem.W.Frag} {mg : Str → Option Value} {base : Heap} {x qual : Str} {params : Arguments} {body : List Stmt} {scope : Scope} {dvs : List V} {kws : List (Str × V)} {f : Addr} {fd : FuncData} {N ps : List Str} {k : Nat} {sp : Sp}
theorem FnOkG.of (F : FunD K x qual params body scope dvs kws f fd) (S : FnScope N ps scope) (len : ∀ vs H Q E, sp vs H Q E → vs.length = ps.length)
    (hb : ∀ (cdv : Value) (A : Around) (outer : List Env) (s : Shared) (H : Hp) (vs : List V) (Q : VK) (E : XK), A.guards = some [] → Room k (A.deeper (envOfC qual scope s.heap.objs.size f cdv)) → sp vs H Q E →
      ∃ t, PSs (cxOf CX0 P w K mg base N qual scope f cdv A outer s H E) body t ∧ t { nx := fun _ H' => Q .non H', rt := Q } (start N vs) H) : FnOkG P w K mg base (k + 1) f fd ps sp := by
  obtain ⟨oc, od, dV, kV, doc, pm, an, cdv, ct, osl, rfl, lk, cd, _, _⟩ := F.ex
  constructor
  · exact len
  intro A outer s H args us vs Q E gd hr e0 bind rel h
  have up : ∀ b o, base.get? b = some o → s.heap.get? b = some o := fun b o e => (e0.bs b o e).1
  have KX : K.In s.heap := e0.mod.kin.keeps up
  have kinds : ∀ y ∈ ps.zip us, scope.names.lookup y.1 = some .local ∨ (scope.names.lookup y.1 = some .cell ∧ ((cellsFrom (s.heap.objs.size + 1) scope.names []).lookup y.1).isSome = true) := by
    rintro ⟨n, v⟩ hy
    exact (S.par n (List.of_mem_zip hy).1).imp id fun q => ⟨q, PySem.W.cellsFrom_some _ _ _ (.inl q)⟩
  refine codeAny_call_function hr.depth (KX _ _ lk) rfl S.co S.gen rfl (PySem.W.codeRec_of KX cd) (bind _ _ _ _ (wpAny_newFunctionEnv_cells S.kind kinds fun env he s1 st => ?_))
  subst he
  obtain ⟨t, ht, q⟩ := hb cdv A outer s H vs Q E gd (hr.deeper _) h
  refine ⟨(e0.mod.nolimit.keeps up).keeps st.toInCall.keep, codeAny_func (wpAny_mono (ht.run [] s1 _ H _ (inv_start S hr.hd e0 (len _ _ _ _ h) rel st) q) (fun fl s' z => ?_) fun _ _ z => z)⟩
  cases fl with
  | ret u =>
    obtain ⟨v, σ', H', J, rv, q⟩ := z
    exact ⟨v, H', J.os, J.bare, J.base, J.hok, rv, q⟩
  | next =>
    obtain ⟨σ', H', J, q⟩ := z
    exact ⟨.non, H', J.os, J.bare, J.base, J.hok, rfl, q⟩
  | brk => obtain ⟨_, _, _, q⟩ := z; exact q.elim
  | cont => obtain ⟨_, _, _, q⟩ := z; exact q.elim
end
section
variable {X : Cx} {f : Addr} {fd : FuncData} {ps : List Str} {sp : Sp} {x : Str} {e : Expr} {es : List Expr} {t : TA} {k : Nat} {p pos : Pos}
theorem pe_callG (F : FnOkG X.prog X.w X.K X.mg X.base k f fd ps sp) (gd : X.A.guards = some []) (hr : Room k X.A) (hg : Gl X x) (hm : X.mg x = some (.ref f)) (kp : PySem.W.keepIn X.K (.ref f) = true) (hb : Binds X.K fd ps [])
    (ha : PA X (e :: es) t) (hdb : (x == ("__debug__" : Str)) = false := by decide) (he : starEach (e :: es) X.env = (false, eval e X.env) :: starEach es X.env := by rfl) (hpl : (backTo pos (starEach es X.env)).any (·.1) = false := by rfl) :
    PE X (.Call (.Name x p) (e :: es) [] pos) (tCall sp [] E0 t) := by
  refine ⟨fun pins s σ H Q I h => wpAny_Call_Name_kw (ld_glob I hg hm ?_ hdb)⟩
  refine PySem.W.callWith_K (h₀ := X.base) I.ok.mod.kin kp (thn (ha.run pos pins s σ H _ I h) fun us s1 z => ?_) he hpl
  obtain ⟨vs, H1, J, r, q⟩ := z
  have q : sp vs H1 Q E0 := by rw [List.append_nil] at q; exact q
  have b := hb s1 us J.kIn (by rw [List.append_nil, ← r.length]; exact F.len _ _ _ _ q)
  rw [List.append_nil] at b
  refine ⟨J.kIn, wpAny_call (codeAny_mono (F.run X.A X.stack s1 H1 ⟨us, []⟩ us vs Q E0 gd hr J.env0 b r q) fun z s2 y => ?_)⟩
  cases z with
  | error e => exact False.elim y
  | ok fl =>
    cases fl with
    | ret u => exact J.after y
    | _ => exact y.elim
end
/-! ### the law's end -/
section
variable {P : Program} {w : World} {K : PySem.W.Frag} {mg mb : Str → Option Value} {k : Nat} {fa a : Addr} {fd : FuncData} {x : Str} {sp : Sp} {s₁ : Shared} {vs : List Value} {ns : List Int}
/-- the abstract heap at the entry: the script alone, where it is not one of the text's own lists -/
def atEntry (K : PySem.W.Frag) (a : Addr) (vs : List Value) (ns : List Int) : Hp := fun b => if b = a ∧ K.lookup a = none then some (.frz { cls := .type "list", data := .seq vs.toArray } (.lst (ns.map V.int))) else none
theorem atEntry_some {b : Addr} {u : HO} (h : atEntry K a vs ns b = some u) : b = a ∧ K.lookup a = none ∧ u = .frz { cls := .type "list", data := .seq vs.toArray } (.lst (ns.map V.int)) := by
  unfold atEntry at h
  by_cases c : b = a ∧ K.lookup a = none
  · rw [if_pos c] at h
    exact ⟨c.1, c.2, (Option.some.inj h).symm⟩
  · rw [if_neg c] at h
    cases h
theorem law_end (KX : K.In s₁.heap) (hns : s₁.heap.Ns mainGlobals mg) (hb : s₁.heap.Ns builtinsNs mb) (hbb : ∀ x : Str, x ≠ "__name__" → mb x = bootBuiltins x) (hlim : s₁.heap.NoLimit) (hg : s₁.gens = #[])
    (ha : s₁.heap.get? a = some { cls := .type "list", data := .seq vs.toArray }) (hi : IntsAre vs ns) (hl : ns.length ≤ sizeLine) (hr : Room k callerA)
    (F : ∀ base : Heap, K.In base → base.Ns mainGlobals mg → FnOkG P w K mg base k fa fd [x] sp) (hbind : ∀ (s : Shared) (u : Value), BindsTo s fd ⟨[u], []⟩ [(x, u)])
    (hsp : ∀ H : Hp, SqL K H a (ns.map V.int) → sp [.ref a] H (fun v _ => v = .bl true) E0) :
    codeAny (model P w) callerA (.call (.ref fa) ⟨[.ref a], []⟩) (fun r s' => r = .ok (.ret (.bool true)) ∧ OldK s₁.heap s'.heap ∧ s'.os = s₁.os ∧ AllBare s'.gens) s₁ := by
  have rv := vals_ints hi
  have lv := hi.length
  let H : Hp := atEntry K a vs ns
  have hS : SqL K H a (ns.map V.int) := by
    cases hk : K.lookup a with
    | some o =>
      have e := KX a o hk
      rw [ha] at e
      cases e
      exact .inr ⟨_, vs.toArray, _, hk, rfl, rfl, rfl, by rw [List.size_toArray, lv]; exact hl, by simpa using rv⟩
    | none => exact .inl (.inr ⟨_, if_pos ⟨rfl, hk⟩⟩)
  have ok : HOk P w H s₁.heap := fun b u z => by
    obtain ⟨rfl, _, rfl⟩ := atEntry_some z
    exact ⟨ha, by rw [List.length_map]; exact hl, vs, _, rv, ha⟩
  have free : ∀ {b : Addr} {o : Obj}, s₁.heap.get? b = some o → (∀ xs n, o.data ≠ .seq xs n) → H b = none := fun {b o} e d => by
    cases q : H b with
    | none => rfl
    | some u =>
      obtain ⟨rfl, _, _⟩ := atEntry_some q
      rw [ha] at e
      cases e
      exact absurd rfl (d _ _)
  have ns_ : ∀ {b : Addr} {m : Str → Option Value}, s₁.heap.Ns b m → (hidT s₁.heap H).Ns b m := by
    rintro b m ⟨o, es, ep, e, d, r⟩
    exact ⟨o, es, ep, hidT_get e (free e fun _ _ z => by rw [d] at z; cases z), d, r⟩
  have KB : K.In (hidT s₁.heap H) := fun b o e => hidT_get (KX b o e) (by
    cases q : H b with
    | none => rfl
    | some u =>
      obtain ⟨rfl, n, _⟩ := atEntry_some q
      rw [n] at e
      cases e)
  have M : Mod K mg (hidT s₁.heap H) := ⟨KB, ns_ hns, ⟨mb, ns_ hb, hbb⟩, by obtain ⟨mc, h1, h2⟩ := hlim; exact ⟨mc, ns_ h1, h2⟩⟩
  have e0 : Env0 P w K mg (hidT s₁.heap H) callerA [] s₁ H := ⟨rfl, M, fun b o e => of_hidT e, Nat.le_of_eq (hidT_size _ _), trivial, fun b z => absurd z List.not_mem_nil, ok, .of_eq hg⟩
  refine codeAny_mono ((F _ KB (ns_ hns)).run callerA [] s₁ H ⟨[.ref a], []⟩ [.ref a] [.ref a] _ _ rfl hr e0 (hbind s₁ (.ref a)) (.cons rfl .nil) (hsp H hS)) fun r s' h => ?_
  cases r with
  | error e => exact False.elim h
  | ok fl =>
    cases fl with
    | ret u =>
      obtain ⟨v, H', os, bare, un, ok', rel, rfl⟩ := h
      cases rel
      refine ⟨rfl, OldK.of_keep fun b o e => ?_, os, bare⟩
      cases q : H b with
      | none => exact un.keep b o e q List.not_mem_nil List.not_mem_nil
      | some u =>
        obtain ⟨rfl, _, rfl⟩ := atEntry_some q
        obtain ⟨e1, _⟩ := ok b _ q
        obtain ⟨e2, _⟩ := ok' b _ (un.frzs b _ _ q)
        rw [e] at e1
        cases e1
        exact e2
    | _ => exact False.elim h
end
theorem law_walk {l : PySem.W.OpenLaw} {n k : Nat} {q : Program} {loose : List Str} {XP : (Str → Option Value) → Heap → Prop} {YP : World → Heap → Prop} {d : DefRec} {x : Str}
    (hn : l.most = some n) (hn2 : n ≤ sizeLine) (hdf : d.params.defaults = []) (hr : Room k callerA)
    (F : ∀ (w : World) (mg : Str → Option Value) (fa : Addr) (h : Heap), YP w h → h.Ns mainGlobals mg → mg d.name = some (.ref fa) →
      ∃ (K : PySem.W.Frag) (fd : FuncData) (sp : Sp), K.In h ∧ (∀ (s : Shared) (u : Value), BindsTo s fd ⟨[u], []⟩ [(x, u)]) ∧
        (∀ (H : Hp) (a : Addr) (ns : List Int), ns.length ≤ n → (∀ z ∈ ns, Builtin.Int.intBits z ≤ 1048576) → SqL K H a (ns.map V.int) → sp [.ref a] H (fun v _ => v = .bl true) E0) ∧
        ∀ base : Heap, K.In base → base.Ns mainGlobals mg → FnOkG l.prog w K mg base k fa fd [x] sp) :
    PySem.W.WalkO q loose XP YP l.row.toRowW d [] (fun f vs => PySem.call f vs) := by
  refine Att.attach_callB hn hdf fun w s₀ s₁ mg mb fa o pm cd doc a vs ns G Y _ _ _ hmg hobj hints hlen hbits hg => ?_
  obtain ⟨K, fd, sp, KX, hb, hsp, hF⟩ := F w mg fa _ Y G.T.g hmg
  exact law_end KX G.T.g G.T.b G.T.builtins G.T.nolimit hg hobj hints (Nat.le_trans hlen hn2) hr hF hb fun H hS => hsp H a ns hlen hbits hS
end RB
set_option maxHeartbeats 4000000
/-! The text by places, and what the top has written (printed by gentext.py). -/
namespace RB
open PySem PySem.Spec PyProof.Rows L2
def top (i : Nat) : Stmt := PySem.Challenge.pw_reachbook_k09_whole_plain_ties.main.body.getD i (.Pass ⟨0, 0, 0, 0⟩)
abbrev s_is_whole : Stmt := top 19
abbrev s_is_among : Stmt := top 20
abbrev s_are_signs : Stmt := top 21
abbrev s_is_name : Stmt := top 22
abbrev s_number_text : Stmt := top 23
abbrev s_number_of : Stmt := top 24
abbrev s_words_of : Stmt := top 25
abbrev s_Way_init : Stmt := inClass (top 27) 0
abbrev s_Border_init : Stmt := inClass (top 28) 0
abbrev s_Sides_init : Stmt := inClass (top 29) 0
abbrev s_OddRing_init : Stmt := inClass (top 30) 0
abbrev s_ends_by : Stmt := top 31
abbrev s_came_from : Stmt := top 32
abbrev s_way_back : Stmt := top 33
abbrev s_in_order : Stmt := top 34
abbrev s_pieces : Stmt := top 35
abbrev s_together : Stmt := top 36
abbrev s_trees_of : Stmt := top 37
abbrev s_forest : Stmt := top 38
abbrev s_need_forest : Stmt := top 39
abbrev s_ring_by : Stmt := top 40
abbrev s_sides : Stmt := top 41
abbrev s_need_load : Stmt := top 46
abbrev s_Tie_init : Stmt := inClass (top 47) 0
abbrev s_moved_tie : Stmt := top 48
abbrev s_Web_init : Stmt := inClass (top 49) 0
abbrev s_Web_points : Stmt := inClass (top 49) 1
abbrev s_Web_ties : Stmt := inClass (top 49) 2
abbrev s_Web_given : Stmt := inClass (top 49) 3
abbrev s_Web_need_point : Stmt := inClass (top 49) 4
abbrev s_Web_need_new : Stmt := inClass (top 49) 5
abbrev s_Web_need_room : Stmt := inClass (top 49) 6
abbrev s_Web_put_point : Stmt := inClass (top 49) 7
abbrev s_Web_drop_point : Stmt := inClass (top 49) 8
abbrev s_Web_move_all : Stmt := inClass (top 49) 9
abbrev s_Web_rename : Stmt := inClass (top 49) 10
abbrev s_Web_put_tie : Stmt := inClass (top 49) 11
abbrev s_Web_put_numbered : Stmt := inClass (top 49) 12
abbrev s_Web_tie_of : Stmt := inClass (top 49) 13
abbrev s_Web_drop_tie : Stmt := inClass (top 49) 14
abbrev s_Web_set_load : Stmt := inClass (top 49) 15
abbrev s_Web_join : Stmt := inClass (top 49) 16
abbrev s_Web_part : Stmt := inClass (top 49) 17
abbrev s_Web_give : Stmt := inClass (top 49) 19
abbrev s_tie_line : Stmt := top 50
abbrev s_web_lines : Stmt := top 51
abbrev s_need_line : Stmt := top 52
abbrev s_put_tie_line : Stmt := top 53
abbrev s_put_line : Stmt := top 54
abbrev s_web_of : Stmt := top 55
abbrev s_law_draw : Stmt := top 57
abbrev s_law_load : Stmt := top 58
abbrev s_law_pool : Stmt := top 59
abbrev s_law_whole : Stmt := top 60
abbrev s_law_put_tie : Stmt := top 61
abbrev s_law_tie_changed : Stmt := top 62
abbrev s_law_moved : Stmt := top 63
abbrev s_law_at : Stmt := top 64
abbrev s_law_point_changed : Stmt := top 65
abbrev s_law_deed : Stmt := top 66
abbrev s_law_row : Stmt := top 67
abbrev s_law_rows : Stmt := top 68
abbrev s_law_stands : Stmt := top 69
abbrev s_law_none : Stmt := top 70
abbrev s_law_trees : Stmt := top 71
abbrev s_law_pieces : Stmt := top 72
abbrev s_law_gone : Stmt := top 73
abbrev s_law_turned : Stmt := top 74
abbrev s_law_rings_even : Stmt := top 75
abbrev s_law_way_row : Stmt := top 76
abbrev s_law_ways_good : Stmt := top 77
abbrev s_law_good : Stmt := top 78
abbrev s_law_filled : Stmt := top 79
abbrev s_law : Stmt := top 80
abbrev n_is_whole : List Str := ["thing"]
theorem sc_is_whole : FnScope n_is_whole ["thing"] (defScope s_is_whole) := ⟨rfl, rfl, rfl, by decide +kernel, rfl, by decide +kernel, by decide +kernel⟩
abbrev n_is_among : List Str := ["thing", "least", "most"]
theorem sc_is_among : FnScope n_is_among ["thing", "least", "most"] (defScope s_is_among) := ⟨rfl, rfl, rfl, by decide +kernel, rfl, by decide +kernel, by decide +kernel⟩
abbrev n_are_signs : List Str := ["text", "signs", "sign"]
theorem sc_are_signs : FnScope n_are_signs ["text", "signs"] (defScope s_are_signs) := ⟨rfl, rfl, rfl, by decide +kernel, rfl, by decide +kernel, by decide +kernel⟩
abbrev n_is_name : List Str := ["thing"]
theorem sc_is_name : FnScope n_is_name ["thing"] (defScope s_is_name) := ⟨rfl, rfl, rfl, by decide +kernel, rfl, by decide +kernel, by decide +kernel⟩
abbrev n_number_text : List Str := ["number"]
theorem sc_number_text : FnScope n_number_text ["number"] (defScope s_number_text) := ⟨rfl, rfl, rfl, by decide +kernel, rfl, by decide +kernel, by decide +kernel⟩
abbrev n_number_of : List Str := ["word"]
theorem sc_number_of : FnScope n_number_of ["word"] (defScope s_number_of) := ⟨rfl, rfl, rfl, by decide +kernel, rfl, by decide +kernel, by decide +kernel⟩
abbrev n_words_of : List Str := ["line", "words"]
theorem sc_words_of : FnScope n_words_of ["line"] (defScope s_words_of) := ⟨rfl, rfl, rfl, by decide +kernel, rfl, by decide +kernel, by decide +kernel⟩
abbrev n_Way_init : List Str := ["self", "numbers"]
theorem sc_Way_init : FnScope n_Way_init ["self", "numbers"] (defScope s_Way_init) := ⟨rfl, rfl, rfl, by decide +kernel, rfl, by decide +kernel, by decide +kernel⟩
abbrev n_Border_init : List Str := ["self", "names"]
theorem sc_Border_init : FnScope n_Border_init ["self", "names"] (defScope s_Border_init) := ⟨rfl, rfl, rfl, by decide +kernel, rfl, by decide +kernel, by decide +kernel⟩
abbrev n_Sides_init : List Str := ["self", "sides"]
theorem sc_Sides_init : FnScope n_Sides_init ["self", "sides"] (defScope s_Sides_init) := ⟨rfl, rfl, rfl, by decide +kernel, rfl, by decide +kernel, by decide +kernel⟩
abbrev n_OddRing_init : List Str := ["self", "numbers"]
theorem sc_OddRing_init : FnScope n_OddRing_init ["self", "numbers"] (defScope s_OddRing_init) := ⟨rfl, rfl, rfl, by decide +kernel, rfl, by decide +kernel, by decide +kernel⟩
abbrev n_ends_by : List Str := ["some", "found", "tie"]
theorem sc_ends_by : FnScope n_ends_by ["some"] (defScope s_ends_by) := ⟨rfl, rfl, rfl, by decide +kernel, rfl, by decide +kernel, by decide +kernel⟩
abbrev n_came_from : List Str := ["beside", "start", "found", "waiting", "at", "here", "number", "there"]
theorem sc_came_from : FnScope n_came_from ["beside", "start"] (defScope s_came_from) := ⟨rfl, rfl, rfl, by decide +kernel, rfl, by decide +kernel, by decide +kernel⟩
abbrev n_way_back : List Str := ["came", "goal", "found", "here"]
theorem sc_way_back : FnScope n_way_back ["came", "goal"] (defScope s_way_back) := ⟨rfl, rfl, rfl, by decide +kernel, rfl, by decide +kernel, by decide +kernel⟩
abbrev n_in_order : List Str := ["web", "some", "name"]
theorem sc_in_order : FnScope n_in_order ["web", "some"] (defScope s_in_order) := ⟨rfl, rfl, rfl, by decide +kernel, rfl, by decide +kernel, by decide +kernel⟩
abbrev n_pieces : List Str := ["web", "beside", "found", "met", "name", "came"]
theorem sc_pieces : FnScope n_pieces ["web"] (defScope s_pieces) := ⟨rfl, rfl, rfl, by decide +kernel, rfl, by decide +kernel, by decide +kernel⟩
abbrev n_together : List Str := ["web", "one", "other", "came"]
theorem sc_together : FnScope n_together ["web", "one", "other"] (defScope s_together) := ⟨rfl, rfl, rfl, by decide +kernel, rfl, by decide +kernel, by decide +kernel⟩
abbrev n_trees_of : List Str := ["web", "some", "roots", "name", "found", "tie", "one", "other"]
theorem sc_trees_of : FnScope n_trees_of ["web", "some"] (defScope s_trees_of) := ⟨rfl, rfl, rfl, by decide +kernel, rfl, by decide +kernel, by decide +kernel⟩
abbrev n_forest : List Str := ["web"]
theorem sc_forest : FnScope n_forest ["web"] (defScope s_forest) := ⟨rfl, rfl, rfl, by decide +kernel, rfl, by decide +kernel, by decide +kernel⟩
abbrev n_need_forest : List Str := ["web", "numbers", "some", "number", "tie"]
theorem sc_need_forest : FnScope n_need_forest ["web", "numbers"] (defScope s_need_forest) := ⟨rfl, rfl, rfl, by decide +kernel, rfl, by decide +kernel, by decide +kernel⟩
abbrev n_ring_by : List Str := ["web", "numbers", "number", "some", "tie"]
theorem sc_ring_by : FnScope n_ring_by ["web", "numbers", "number"] (defScope s_ring_by) := ⟨rfl, rfl, rfl, by decide +kernel, rfl, by decide +kernel, by decide +kernel⟩
abbrev n_sides : List Str := ["web", "every", "chosen", "beside", "found", "name", "came", "here", "tie"]
theorem sc_sides : FnScope n_sides ["web"] (defScope s_sides) := ⟨rfl, rfl, rfl, by decide +kernel, rfl, by decide +kernel, by decide +kernel⟩
abbrev n_need_load : List Str := ["load"]
theorem sc_need_load : FnScope n_need_load ["load"] (defScope s_need_load) := ⟨rfl, rfl, rfl, by decide +kernel, rfl, by decide +kernel, by decide +kernel⟩
abbrev n_Tie_init : List Str := ["self", "number", "tail", "head", "load", "is_oneway"]
theorem sc_Tie_init : FnScope n_Tie_init ["self", "number", "tail", "head", "load", "is_oneway"] (defScope s_Tie_init) := ⟨rfl, rfl, rfl, by decide +kernel, rfl, by decide +kernel, by decide +kernel⟩
abbrev n_moved_tie : List Str := ["tie", "name", "other", "tail", "head"]
theorem sc_moved_tie : FnScope n_moved_tie ["tie", "name", "other"] (defScope s_moved_tie) := ⟨rfl, rfl, rfl, by decide +kernel, rfl, by decide +kernel, by decide +kernel⟩
abbrev n_Web_init : List Str := ["self"]
theorem sc_Web_init : FnScope n_Web_init ["self"] (defScope s_Web_init) := ⟨rfl, rfl, rfl, by decide +kernel, rfl, by decide +kernel, by decide +kernel⟩
abbrev n_Web_points : List Str := ["self"]
theorem sc_Web_points : FnScope n_Web_points ["self"] (defScope s_Web_points) := ⟨rfl, rfl, rfl, by decide +kernel, rfl, by decide +kernel, by decide +kernel⟩
abbrev n_Web_ties : List Str := ["self", "number"]
theorem sc_Web_ties : FnScope n_Web_ties ["self"] (defScope s_Web_ties) := ⟨rfl, rfl, rfl, by decide +kernel, rfl, by decide +kernel, by decide +kernel⟩
abbrev n_Web_given : List Str := ["self"]
theorem sc_Web_given : FnScope n_Web_given ["self"] (defScope s_Web_given) := ⟨rfl, rfl, rfl, by decide +kernel, rfl, by decide +kernel, by decide +kernel⟩
abbrev n_Web_need_point : List Str := ["self", "name"]
theorem sc_Web_need_point : FnScope n_Web_need_point ["self", "name"] (defScope s_Web_need_point) := ⟨rfl, rfl, rfl, by decide +kernel, rfl, by decide +kernel, by decide +kernel⟩
abbrev n_Web_need_new : List Str := ["self", "name"]
theorem sc_Web_need_new : FnScope n_Web_need_new ["self", "name"] (defScope s_Web_need_new) := ⟨rfl, rfl, rfl, by decide +kernel, rfl, by decide +kernel, by decide +kernel⟩
abbrev n_Web_need_room : List Str := ["self"]
theorem sc_Web_need_room : FnScope n_Web_need_room ["self"] (defScope s_Web_need_room) := ⟨rfl, rfl, rfl, by decide +kernel, rfl, by decide +kernel, by decide +kernel⟩
abbrev n_Web_put_point : List Str := ["self", "name"]
theorem sc_Web_put_point : FnScope n_Web_put_point ["self", "name"] (defScope s_Web_put_point) := ⟨rfl, rfl, rfl, by decide +kernel, rfl, by decide +kernel, by decide +kernel⟩
abbrev n_Web_drop_point : List Str := ["self", "name", "tie"]
theorem sc_Web_drop_point : FnScope n_Web_drop_point ["self", "name"] (defScope s_Web_drop_point) := ⟨rfl, rfl, rfl, by decide +kernel, rfl, by decide +kernel, by decide +kernel⟩
abbrev n_Web_move_all : List Str := ["self", "name", "other", "tie"]
theorem sc_Web_move_all : FnScope n_Web_move_all ["self", "name", "other"] (defScope s_Web_move_all) := ⟨rfl, rfl, rfl, by decide +kernel, rfl, by decide +kernel, by decide +kernel⟩
abbrev n_Web_rename : List Str := ["self", "name", "other"]
theorem sc_Web_rename : FnScope n_Web_rename ["self", "name", "other"] (defScope s_Web_rename) := ⟨rfl, rfl, rfl, by decide +kernel, rfl, by decide +kernel, by decide +kernel⟩
abbrev n_Web_put_tie : List Str := ["self", "tail", "head", "load", "is_oneway"]
theorem sc_Web_put_tie : FnScope n_Web_put_tie ["self", "tail", "head", "load", "is_oneway"] (defScope s_Web_put_tie) := ⟨rfl, rfl, rfl, by decide +kernel, rfl, by decide +kernel, by decide +kernel⟩
abbrev n_Web_put_numbered : List Str := ["self", "number", "tail", "head", "load", "is_oneway"]
theorem sc_Web_put_numbered : FnScope n_Web_put_numbered ["self", "number", "tail", "head", "load", "is_oneway"] (defScope s_Web_put_numbered) := ⟨rfl, rfl, rfl, by decide +kernel, rfl, by decide +kernel, by decide +kernel⟩
abbrev n_Web_tie_of : List Str := ["self", "number"]
theorem sc_Web_tie_of : FnScope n_Web_tie_of ["self", "number"] (defScope s_Web_tie_of) := ⟨rfl, rfl, rfl, by decide +kernel, rfl, by decide +kernel, by decide +kernel⟩
abbrev n_Web_drop_tie : List Str := ["self", "number"]
theorem sc_Web_drop_tie : FnScope n_Web_drop_tie ["self", "number"] (defScope s_Web_drop_tie) := ⟨rfl, rfl, rfl, by decide +kernel, rfl, by decide +kernel, by decide +kernel⟩
abbrev n_Web_set_load : List Str := ["self", "number", "load", "tie"]
theorem sc_Web_set_load : FnScope n_Web_set_load ["self", "number", "load"] (defScope s_Web_set_load) := ⟨rfl, rfl, rfl, by decide +kernel, rfl, by decide +kernel, by decide +kernel⟩
abbrev n_Web_join : List Str := ["self", "name", "other", "tie"]
theorem sc_Web_join : FnScope n_Web_join ["self", "name", "other"] (defScope s_Web_join) := ⟨rfl, rfl, rfl, by decide +kernel, rfl, by decide +kernel, by decide +kernel⟩
abbrev n_Web_part : List Str := ["self", "name", "other", "numbers", "met", "number", "tie"]
theorem sc_Web_part : FnScope n_Web_part ["self", "name", "other", "numbers"] (defScope s_Web_part) := ⟨rfl, rfl, rfl, by decide +kernel, rfl, by decide +kernel, by decide +kernel⟩
abbrev n_Web_give : List Str := ["self", "number"]
theorem sc_Web_give : FnScope n_Web_give ["self", "number"] (defScope s_Web_give) := ⟨rfl, rfl, rfl, by decide +kernel, rfl, by decide +kernel, by decide +kernel⟩
abbrev n_tie_line : List Str := ["tie", "word"]
theorem sc_tie_line : FnScope n_tie_line ["tie"] (defScope s_tie_line) := ⟨rfl, rfl, rfl, by decide +kernel, rfl, by decide +kernel, by decide +kernel⟩
abbrev n_web_lines : List Str := ["web", "found", "name", "tie"]
theorem sc_web_lines : FnScope n_web_lines ["web"] (defScope s_web_lines) := ⟨rfl, rfl, rfl, by decide +kernel, rfl, by decide +kernel, by decide +kernel⟩
abbrev n_need_line : List Str := ["good"]
theorem sc_need_line : FnScope n_need_line ["good"] (defScope s_need_line) := ⟨rfl, rfl, rfl, by decide +kernel, rfl, by decide +kernel, by decide +kernel⟩
abbrev n_put_tie_line : List Str := ["web", "words", "number", "load"]
theorem sc_put_tie_line : FnScope n_put_tie_line ["web", "words"] (defScope s_put_tie_line) := ⟨rfl, rfl, rfl, by decide +kernel, rfl, by decide +kernel, by decide +kernel⟩
abbrev n_put_line : List Str := ["web", "line", "words"]
theorem sc_put_line : FnScope n_put_line ["web", "line"] (defScope s_put_line) := ⟨rfl, rfl, rfl, by decide +kernel, rfl, by decide +kernel, by decide +kernel⟩
abbrev n_web_of : List Str := ["lines", "web", "is_over", "place", "line", "is_good"]
theorem sc_web_of : FnScope n_web_of ["lines"] (defScope s_web_of) := ⟨rfl, rfl, rfl, by decide +kernel, rfl, by decide +kernel, by decide +kernel⟩
abbrev n_law_draw : List Str := ["_law_cell", "_law_k", "_law_j", "_law_left", "_law_turn", "_law_more"]
theorem sc_law_draw : FnScope n_law_draw ["_law_cell", "_law_k", "_law_j"] (defScope s_law_draw) := ⟨rfl, rfl, rfl, by decide +kernel, rfl, by decide +kernel, by decide +kernel⟩
abbrev n_law_load : List Str := ["_law_cell", "_law_k", "_law_j", "_law_n", "_law_some"]
theorem sc_law_load : FnScope n_law_load ["_law_cell", "_law_k", "_law_j"] (defScope s_law_load) := ⟨rfl, rfl, rfl, by decide +kernel, rfl, by decide +kernel, by decide +kernel⟩
abbrev n_law_pool : List Str := ["_law_cell", "_law_letters", "_law_n", "_law_base", "_law_frame", "_law_at_here", "_law_signs", "_law_found", "_law_j", "_law_sign", "_law_name"]
theorem sc_law_pool : FnScope n_law_pool ["_law_cell"] (defScope s_law_pool) := ⟨rfl, rfl, rfl, by decide +kernel, rfl, by decide +kernel, by decide +kernel⟩
abbrev n_law_whole : List Str := ["_law_thing", "_law_due"]
theorem sc_law_whole : FnScope n_law_whole ["_law_thing", "_law_due"] (defScope s_law_whole) := ⟨rfl, rfl, rfl, by decide +kernel, rfl, by decide +kernel, by decide +kernel⟩
abbrev n_law_put_tie : List Str := ["_law_web", "_law_model", "_law_cell", "_law_k", "_law_names", "_law_n", "_law_tail", "_law_head", "_law_load_here", "_law_oneway", "_law_found"]
theorem sc_law_put_tie : FnScope n_law_put_tie ["_law_web", "_law_model", "_law_cell", "_law_k"] (defScope s_law_put_tie) := ⟨rfl, rfl, rfl, by decide +kernel, rfl, by decide +kernel, by decide +kernel⟩
abbrev n_law_tie_changed : List Str := ["_law_web", "_law_model", "_law_cell", "_law_k", "_law_is_gone", "_law_n", "_law_number", "_law_tail", "_law_head", "_law_load_here", "_law_oneway"]
theorem sc_law_tie_changed : FnScope n_law_tie_changed ["_law_web", "_law_model", "_law_cell", "_law_k", "_law_is_gone"] (defScope s_law_tie_changed) := ⟨rfl, rfl, rfl, by decide +kernel, rfl, by decide +kernel, by decide +kernel⟩
abbrev n_law_moved : List Str := ["_law_model", "_law_name", "_law_other", "_law_numbers", "_law_number", "_law_tail", "_law_head", "_law_load_here", "_law_oneway"]
theorem sc_law_moved : FnScope n_law_moved ["_law_model", "_law_name", "_law_other", "_law_numbers"] (defScope s_law_moved) := ⟨rfl, rfl, rfl, by decide +kernel, rfl, by decide +kernel, by decide +kernel⟩
abbrev n_law_at : List Str := ["_law_model", "_law_name", "_law_number"]
theorem sc_law_at : FnScope n_law_at ["_law_model", "_law_name"] (defScope s_law_at) := ⟨rfl, rfl, rfl, by decide +kernel, rfl, by decide +kernel, by decide +kernel⟩
abbrev n_law_point_changed : List Str := ["_law_web", "_law_model", "_law_free", "_law_cell", "_law_k", "_law_way", "_law_names", "_law_n", "_law_name", "_law_own", "_law_other", "_law_bits", "_law_chosen", "_law_handed", "_law_number", "_law_idle", "_law_gone_here", "_law_j", "_law_bit", "_law_one"]
theorem sc_law_point_changed : FnScope n_law_point_changed ["_law_web", "_law_model", "_law_free", "_law_cell", "_law_k", "_law_way"] (defScope s_law_point_changed) := ⟨rfl, rfl, rfl, by decide +kernel, rfl, by decide +kernel, by decide +kernel⟩
abbrev n_law_deed : List Str := ["_law_web", "_law_model", "_law_pool_here", "_law_cell", "_law_k", "_law_names", "_law_way", "_law_free", "_law_name"]
theorem sc_law_deed : FnScope n_law_deed ["_law_web", "_law_model", "_law_pool_here", "_law_cell", "_law_k"] (defScope s_law_deed) := ⟨rfl, rfl, rfl, by decide +kernel, rfl, by decide +kernel, by decide +kernel⟩
abbrev n_law_row : List Str := ["_law_tie", "_law_row_here", "_law_one"]
theorem sc_law_row : FnScope n_law_row ["_law_tie"] (defScope s_law_row) := ⟨rfl, rfl, rfl, by decide +kernel, rfl, by decide +kernel, by decide +kernel⟩
abbrev n_law_rows : List Str := ["_law_model", "_law_number"]
theorem sc_law_rows : FnScope n_law_rows ["_law_model"] (defScope s_law_rows) := ⟨rfl, rfl, rfl, by decide +kernel, rfl, by decide +kernel, by decide +kernel⟩
abbrev n_law_stands : List Str := ["_law_web", "_law_model", "_law_found", "_law_tie"]
theorem sc_law_stands : FnScope n_law_stands ["_law_web", "_law_model"] (defScope s_law_stands) := ⟨rfl, rfl, rfl, by decide +kernel, rfl, by decide +kernel, by decide +kernel⟩
abbrev n_law_none : List Str := []
theorem sc_law_none : FnScope n_law_none [] (defScope s_law_none) := ⟨rfl, rfl, rfl, by decide +kernel, rfl, by decide +kernel, by decide +kernel⟩
abbrev n_law_trees : List Str := ["_law_model", "_law_numbers", "_law_found", "_law_name", "_law_number", "_law_one", "_law_other"]
theorem sc_law_trees : FnScope n_law_trees ["_law_model", "_law_numbers"] (defScope s_law_trees) := ⟨rfl, rfl, rfl, by decide +kernel, rfl, by decide +kernel, by decide +kernel⟩
abbrev n_law_pieces : List Str := ["_law_model", "_law_trees_here", "_law_found", "_law_name", "_law_mine", "_law_one"]
theorem sc_law_pieces : FnScope n_law_pieces ["_law_model"] (defScope s_law_pieces) := ⟨rfl, rfl, rfl, by decide +kernel, rfl, by decide +kernel, by decide +kernel⟩
abbrev n_law_gone : List Str := ["_law_model", "_law_numbers", "_law_start", "_law_road", "_law_number", "_law_ends"]
theorem sc_law_gone : FnScope n_law_gone ["_law_model", "_law_numbers", "_law_start"] (defScope s_law_gone) := ⟨rfl, rfl, rfl, by decide +kernel, rfl, by decide +kernel, by decide +kernel⟩
abbrev n_law_turned : List Str := ["_law_lines", "_law_n", "_law_way", "_law_found", "_law_k", "_law_line", "_law_words", "_law_bit", "_law_kind", "_law_ends"]
theorem sc_law_turned : FnScope n_law_turned ["_law_lines", "_law_n", "_law_way"] (defScope s_law_turned) := ⟨rfl, rfl, rfl, by decide +kernel, rfl, by decide +kernel, by decide +kernel⟩
abbrev n_law_rings_even : List Str := ["_law_web", "_law_model", "_law_chosen", "_law_even", "_law_number", "_law_ring", "_law_tail", "_law_head", "_law_road"]
theorem sc_law_rings_even : FnScope n_law_rings_even ["_law_web", "_law_model", "_law_chosen"] (defScope s_law_rings_even) := ⟨rfl, rfl, rfl, by decide +kernel, rfl, by decide +kernel, by decide +kernel⟩
abbrev n_law_way_row : List Str := ["_law_found"]
theorem sc_law_way_row : FnScope n_law_way_row ["_law_found"] (defScope s_law_way_row) := ⟨rfl, rfl, rfl, by decide +kernel, rfl, by decide +kernel, by decide +kernel⟩
abbrev n_law_ways_good : List Str := ["_law_web", "_law_model", "_law_mine", "_law_n", "_law_names", "_law_one", "_law_like", "_law_other", "_law_found", "_law_hangs", "_law_road", "_law_some"]
theorem sc_law_ways_good : FnScope n_law_ways_good ["_law_web", "_law_model", "_law_mine", "_law_n"] (defScope s_law_ways_good) := ⟨rfl, rfl, rfl, by decide +kernel, rfl, by decide +kernel, by decide +kernel⟩
abbrev n_law_good : List Str := ["_law_web", "_law_model", "_law_n", "_law_held", "_law_mine", "_law_chosen", "_law_trees_here", "_law_some", "_law_even", "_law_told", "_law_other", "_law_turned_here", "_law_name"]
theorem sc_law_good : FnScope n_law_good ["_law_web", "_law_model", "_law_n", "_law_held"] (defScope s_law_good) := ⟨rfl, rfl, rfl, by decide +kernel, rfl, by decide +kernel, by decide +kernel⟩
abbrev n_law_filled : List Str := ["_law_web", "_law_model", "_law_pool_here", "_law_n", "_law_free", "_law_name", "_law_k"]
theorem sc_law_filled : FnScope n_law_filled ["_law_web", "_law_model", "_law_pool_here", "_law_n"] (defScope s_law_filled) := ⟨rfl, rfl, rfl, by decide +kernel, rfl, by decide +kernel, by decide +kernel⟩
abbrev n_law : List Str := ["_law_script", "_law_cells", "_law_pool_here", "_law_web", "_law_model", "_law_held", "_law_k", "_law_cell", "_law_n", "_law_pair"]
theorem sc_law : FnScope n_law ["_law_script"] (defScope s_law) := ⟨rfl, rfl, rfl, by decide +kernel, rfl, by decide +kernel, by decide +kernel⟩
def d_is_whole : He.DefD := ⟨("is_whole", none), "is_whole", "is_whole", defArgs s_is_whole, defBody s_is_whole, defScope s_is_whole, [], []⟩
def d_is_among : He.DefD := ⟨("is_among", none), "is_among", "is_among", defArgs s_is_among, defBody s_is_among, defScope s_is_among, [], []⟩
def d_are_signs : He.DefD := ⟨("are_signs", none), "are_signs", "are_signs", defArgs s_are_signs, defBody s_are_signs, defScope s_are_signs, [], []⟩
def d_is_name : He.DefD := ⟨("is_name", none), "is_name", "is_name", defArgs s_is_name, defBody s_is_name, defScope s_is_name, [], []⟩
def d_number_text : He.DefD := ⟨("number_text", none), "number_text", "number_text", defArgs s_number_text, defBody s_number_text, defScope s_number_text, [], []⟩
def d_number_of : He.DefD := ⟨("number_of", none), "number_of", "number_of", defArgs s_number_of, defBody s_number_of, defScope s_number_of, [], []⟩
def d_words_of : He.DefD := ⟨("words_of", none), "words_of", "words_of", defArgs s_words_of, defBody s_words_of, defScope s_words_of, [], []⟩
def d_Way_init : He.DefD := ⟨("Way", some "__init__"), "__init__", "Way.__init__", defArgs s_Way_init, defBody s_Way_init, defScope s_Way_init, [], []⟩
def d_Border_init : He.DefD := ⟨("Border", some "__init__"), "__init__", "Border.__init__", defArgs s_Border_init, defBody s_Border_init, defScope s_Border_init, [], []⟩
def d_Sides_init : He.DefD := ⟨("Sides", some "__init__"), "__init__", "Sides.__init__", defArgs s_Sides_init, defBody s_Sides_init, defScope s_Sides_init, [], []⟩
def d_OddRing_init : He.DefD := ⟨("OddRing", some "__init__"), "__init__", "OddRing.__init__", defArgs s_OddRing_init, defBody s_OddRing_init, defScope s_OddRing_init, [], []⟩
def d_ends_by : He.DefD := ⟨("ends_by", none), "ends_by", "ends_by", defArgs s_ends_by, defBody s_ends_by, defScope s_ends_by, [], []⟩
def d_came_from : He.DefD := ⟨("came_from", none), "came_from", "came_from", defArgs s_came_from, defBody s_came_from, defScope s_came_from, [], []⟩
def d_way_back : He.DefD := ⟨("way_back", none), "way_back", "way_back", defArgs s_way_back, defBody s_way_back, defScope s_way_back, [], []⟩
def d_in_order : He.DefD := ⟨("in_order", none), "in_order", "in_order", defArgs s_in_order, defBody s_in_order, defScope s_in_order, [], []⟩
def d_pieces : He.DefD := ⟨("pieces", none), "pieces", "pieces", defArgs s_pieces, defBody s_pieces, defScope s_pieces, [], []⟩
def d_together : He.DefD := ⟨("together", none), "together", "together", defArgs s_together, defBody s_together, defScope s_together, [], []⟩
def d_trees_of : He.DefD := ⟨("trees_of", none), "trees_of", "trees_of", defArgs s_trees_of, defBody s_trees_of, defScope s_trees_of, [], []⟩
def d_forest : He.DefD := ⟨("forest", none), "forest", "forest", defArgs s_forest, defBody s_forest, defScope s_forest, [], []⟩
def d_need_forest : He.DefD := ⟨("need_forest", none), "need_forest", "need_forest", defArgs s_need_forest, defBody s_need_forest, defScope s_need_forest, [], []⟩
def d_ring_by : He.DefD := ⟨("ring_by", none), "ring_by", "ring_by", defArgs s_ring_by, defBody s_ring_by, defScope s_ring_by, [], []⟩
def d_sides : He.DefD := ⟨("sides", none), "sides", "sides", defArgs s_sides, defBody s_sides, defScope s_sides, [], []⟩
def d_need_load : He.DefD := ⟨("need_load", none), "need_load", "need_load", defArgs s_need_load, defBody s_need_load, defScope s_need_load, [], []⟩
def d_Tie_init : He.DefD := ⟨("Tie", some "__init__"), "__init__", "Tie.__init__", defArgs s_Tie_init, defBody s_Tie_init, defScope s_Tie_init, [], []⟩
def d_moved_tie : He.DefD := ⟨("moved_tie", none), "moved_tie", "moved_tie", defArgs s_moved_tie, defBody s_moved_tie, defScope s_moved_tie, [], []⟩
def d_Web_init : He.DefD := ⟨("Web", some "__init__"), "__init__", "Web.__init__", defArgs s_Web_init, defBody s_Web_init, defScope s_Web_init, [], []⟩
def d_Web_points : He.DefD := ⟨("Web", some "points"), "points", "Web.points", defArgs s_Web_points, defBody s_Web_points, defScope s_Web_points, [], []⟩
def d_Web_ties : He.DefD := ⟨("Web", some "ties"), "ties", "Web.ties", defArgs s_Web_ties, defBody s_Web_ties, defScope s_Web_ties, [], []⟩
def d_Web_given : He.DefD := ⟨("Web", some "given"), "given", "Web.given", defArgs s_Web_given, defBody s_Web_given, defScope s_Web_given, [], []⟩
def d_Web_need_point : He.DefD := ⟨("Web", some "need_point"), "need_point", "Web.need_point", defArgs s_Web_need_point, defBody s_Web_need_point, defScope s_Web_need_point, [], []⟩
def d_Web_need_new : He.DefD := ⟨("Web", some "need_new"), "need_new", "Web.need_new", defArgs s_Web_need_new, defBody s_Web_need_new, defScope s_Web_need_new, [], []⟩
def d_Web_need_room : He.DefD := ⟨("Web", some "need_room"), "need_room", "Web.need_room", defArgs s_Web_need_room, defBody s_Web_need_room, defScope s_Web_need_room, [], []⟩
def d_Web_put_point : He.DefD := ⟨("Web", some "put_point"), "put_point", "Web.put_point", defArgs s_Web_put_point, defBody s_Web_put_point, defScope s_Web_put_point, [], []⟩
def d_Web_drop_point : He.DefD := ⟨("Web", some "drop_point"), "drop_point", "Web.drop_point", defArgs s_Web_drop_point, defBody s_Web_drop_point, defScope s_Web_drop_point, [], []⟩
def d_Web_move_all : He.DefD := ⟨("Web", some "move_all"), "move_all", "Web.move_all", defArgs s_Web_move_all, defBody s_Web_move_all, defScope s_Web_move_all, [], []⟩
def d_Web_rename : He.DefD := ⟨("Web", some "rename"), "rename", "Web.rename", defArgs s_Web_rename, defBody s_Web_rename, defScope s_Web_rename, [], []⟩
def d_Web_put_tie : He.DefD := ⟨("Web", some "put_tie"), "put_tie", "Web.put_tie", defArgs s_Web_put_tie, defBody s_Web_put_tie, defScope s_Web_put_tie, [.int 0, .bl false], []⟩
def d_Web_put_numbered : He.DefD := ⟨("Web", some "put_numbered"), "put_numbered", "Web.put_numbered", defArgs s_Web_put_numbered, defBody s_Web_put_numbered, defScope s_Web_put_numbered, [], []⟩
def d_Web_tie_of : He.DefD := ⟨("Web", some "tie_of"), "tie_of", "Web.tie_of", defArgs s_Web_tie_of, defBody s_Web_tie_of, defScope s_Web_tie_of, [], []⟩
def d_Web_drop_tie : He.DefD := ⟨("Web", some "drop_tie"), "drop_tie", "Web.drop_tie", defArgs s_Web_drop_tie, defBody s_Web_drop_tie, defScope s_Web_drop_tie, [], []⟩
def d_Web_set_load : He.DefD := ⟨("Web", some "set_load"), "set_load", "Web.set_load", defArgs s_Web_set_load, defBody s_Web_set_load, defScope s_Web_set_load, [], []⟩
def d_Web_join : He.DefD := ⟨("Web", some "join"), "join", "Web.join", defArgs s_Web_join, defBody s_Web_join, defScope s_Web_join, [], []⟩
def d_Web_part : He.DefD := ⟨("Web", some "part"), "part", "Web.part", defArgs s_Web_part, defBody s_Web_part, defScope s_Web_part, [], []⟩
def d_Web_give : He.DefD := ⟨("Web", some "give"), "give", "Web.give", defArgs s_Web_give, defBody s_Web_give, defScope s_Web_give, [], []⟩
def d_tie_line : He.DefD := ⟨("tie_line", none), "tie_line", "tie_line", defArgs s_tie_line, defBody s_tie_line, defScope s_tie_line, [], []⟩
def d_web_lines : He.DefD := ⟨("web_lines", none), "web_lines", "web_lines", defArgs s_web_lines, defBody s_web_lines, defScope s_web_lines, [], []⟩
def d_need_line : He.DefD := ⟨("need_line", none), "need_line", "need_line", defArgs s_need_line, defBody s_need_line, defScope s_need_line, [], []⟩
def d_put_tie_line : He.DefD := ⟨("put_tie_line", none), "put_tie_line", "put_tie_line", defArgs s_put_tie_line, defBody s_put_tie_line, defScope s_put_tie_line, [], []⟩
def d_put_line : He.DefD := ⟨("put_line", none), "put_line", "put_line", defArgs s_put_line, defBody s_put_line, defScope s_put_line, [], []⟩
def d_web_of : He.DefD := ⟨("web_of", none), "web_of", "web_of", defArgs s_web_of, defBody s_web_of, defScope s_web_of, [], []⟩
def d_law_draw : He.DefD := ⟨("_law_draw", none), "_law_draw", "_law_draw", defArgs s_law_draw, defBody s_law_draw, defScope s_law_draw, [], []⟩
def d_law_load : He.DefD := ⟨("_law_load", none), "_law_load", "_law_load", defArgs s_law_load, defBody s_law_load, defScope s_law_load, [], []⟩
def d_law_pool : He.DefD := ⟨("_law_pool", none), "_law_pool", "_law_pool", defArgs s_law_pool, defBody s_law_pool, defScope s_law_pool, [], []⟩
def d_law_whole : He.DefD := ⟨("_law_whole", none), "_law_whole", "_law_whole", defArgs s_law_whole, defBody s_law_whole, defScope s_law_whole, [], []⟩
def d_law_put_tie : He.DefD := ⟨("_law_put_tie", none), "_law_put_tie", "_law_put_tie", defArgs s_law_put_tie, defBody s_law_put_tie, defScope s_law_put_tie, [], []⟩
def d_law_tie_changed : He.DefD := ⟨("_law_tie_changed", none), "_law_tie_changed", "_law_tie_changed", defArgs s_law_tie_changed, defBody s_law_tie_changed, defScope s_law_tie_changed, [], []⟩
def d_law_moved : He.DefD := ⟨("_law_moved", none), "_law_moved", "_law_moved", defArgs s_law_moved, defBody s_law_moved, defScope s_law_moved, [], []⟩
def d_law_at : He.DefD := ⟨("_law_at", none), "_law_at", "_law_at", defArgs s_law_at, defBody s_law_at, defScope s_law_at, [], []⟩
def d_law_point_changed : He.DefD := ⟨("_law_point_changed", none), "_law_point_changed", "_law_point_changed", defArgs s_law_point_changed, defBody s_law_point_changed, defScope s_law_point_changed, [], []⟩
def d_law_deed : He.DefD := ⟨("_law_deed", none), "_law_deed", "_law_deed", defArgs s_law_deed, defBody s_law_deed, defScope s_law_deed, [], []⟩
def d_law_row : He.DefD := ⟨("_law_row", none), "_law_row", "_law_row", defArgs s_law_row, defBody s_law_row, defScope s_law_row, [], []⟩
def d_law_rows : He.DefD := ⟨("_law_rows", none), "_law_rows", "_law_rows", defArgs s_law_rows, defBody s_law_rows, defScope s_law_rows, [], []⟩
def d_law_stands : He.DefD := ⟨("_law_stands", none), "_law_stands", "_law_stands", defArgs s_law_stands, defBody s_law_stands, defScope s_law_stands, [], []⟩
def d_law_none : He.DefD := ⟨("_law_none", none), "_law_none", "_law_none", defArgs s_law_none, defBody s_law_none, defScope s_law_none, [], []⟩
def d_law_trees : He.DefD := ⟨("_law_trees", none), "_law_trees", "_law_trees", defArgs s_law_trees, defBody s_law_trees, defScope s_law_trees, [], []⟩
def d_law_pieces : He.DefD := ⟨("_law_pieces", none), "_law_pieces", "_law_pieces", defArgs s_law_pieces, defBody s_law_pieces, defScope s_law_pieces, [], []⟩
def d_law_gone : He.DefD := ⟨("_law_gone", none), "_law_gone", "_law_gone", defArgs s_law_gone, defBody s_law_gone, defScope s_law_gone, [], []⟩
def d_law_turned : He.DefD := ⟨("_law_turned", none), "_law_turned", "_law_turned", defArgs s_law_turned, defBody s_law_turned, defScope s_law_turned, [], []⟩
def d_law_rings_even : He.DefD := ⟨("_law_rings_even", none), "_law_rings_even", "_law_rings_even", defArgs s_law_rings_even, defBody s_law_rings_even, defScope s_law_rings_even, [], []⟩
def d_law_way_row : He.DefD := ⟨("_law_way_row", none), "_law_way_row", "_law_way_row", defArgs s_law_way_row, defBody s_law_way_row, defScope s_law_way_row, [], []⟩
def d_law_ways_good : He.DefD := ⟨("_law_ways_good", none), "_law_ways_good", "_law_ways_good", defArgs s_law_ways_good, defBody s_law_ways_good, defScope s_law_ways_good, [], []⟩
def d_law_good : He.DefD := ⟨("_law_good", none), "_law_good", "_law_good", defArgs s_law_good, defBody s_law_good, defScope s_law_good, [], []⟩
def d_law_filled : He.DefD := ⟨("_law_filled", none), "_law_filled", "_law_filled", defArgs s_law_filled, defBody s_law_filled, defScope s_law_filled, [], []⟩
def d_law : He.DefD := ⟨("law", none), "law", "law", defArgs s_law, defBody s_law, defScope s_law, [], []⟩
def fnL0 : List He.DefD := [d_is_whole, d_is_among, d_are_signs, d_is_name, d_number_text, d_number_of, d_words_of, d_Way_init, d_Border_init, d_Sides_init, d_OddRing_init, d_ends_by, d_came_from, d_way_back, d_in_order, d_pieces, d_together, d_trees_of, d_forest, d_need_forest, d_ring_by, d_sides, d_need_load, d_Tie_init, d_moved_tie, d_Web_init, d_Web_points, d_Web_ties, d_Web_given, d_Web_need_point]
def fnL1 : List He.DefD := [d_Web_need_new, d_Web_need_room, d_Web_put_point, d_Web_drop_point, d_Web_move_all, d_Web_rename, d_Web_put_tie, d_Web_put_numbered, d_Web_tie_of, d_Web_drop_tie, d_Web_set_load, d_Web_join, d_Web_part, d_Web_give, d_tie_line, d_web_lines, d_need_line, d_put_tie_line, d_put_line, d_web_of, d_law_draw, d_law_load, d_law_pool, d_law_whole, d_law_put_tie, d_law_tie_changed, d_law_moved, d_law_at, d_law_point_changed, d_law_deed]
def fnL2 : List He.DefD := [d_law_row, d_law_rows, d_law_stands, d_law_none, d_law_trees, d_law_pieces, d_law_gone, d_law_turned, d_law_rings_even, d_law_way_row, d_law_ways_good, d_law_good, d_law_filled, d_law]
def fnL : List He.DefD := fnL0 ++ (fnL1 ++ (fnL2))
def faL0 : List He.Fa := [.glo "is_whole", .glo "is_among", .glo "are_signs", .glo "is_name", .glo "number_text", .glo "number_of", .glo "words_of", .glo "ends_by", .glo "came_from", .glo "way_back", .glo "in_order", .glo "pieces", .glo "together", .glo "trees_of", .glo "forest", .glo "need_forest", .glo "ring_by", .glo "sides", .glo "need_load", .glo "moved_tie", .glo "tie_line", .glo "web_lines", .glo "need_line", .glo "put_tie_line", .glo "put_line", .glo "web_of", .glo "_law_draw", .glo "_law_load", .glo "_law_pool", .glo "_law_whole"]
def faL1 : List He.Fa := [.glo "_law_put_tie", .glo "_law_tie_changed", .glo "_law_moved", .glo "_law_at", .glo "_law_point_changed", .glo "_law_deed", .glo "_law_row", .glo "_law_rows", .glo "_law_stands", .glo "_law_none", .glo "_law_trees", .glo "_law_pieces", .glo "_law_gone", .glo "_law_turned", .glo "_law_rings_even", .glo "_law_way_row", .glo "_law_ways_good", .glo "_law_good", .glo "_law_filled", .glo "law", .glo "Way", .glo "Border", .glo "Sides", .glo "OddRing", .glo "Tie", .glo "Web", .free "isinstance", .free "len", .free "sorted", .free "list"]
def faL2 : List He.Fa := [.free "dict", .free "any", .free "all", .free "enumerate", .free "zip", .free "range", .free "int", .free "str", .free "sum", .free "repr", .free "set", .free "bool", .int "MOST_LETTERS" 12, .int "MOST_FIGURES" 61, .int "MOST" (10 ^ 60), .int "MOST_POINTS" 16, .int "MOST_TIES" 48, .str "LETTERS" "abcdefghijklmnopqrstuvwxyz", .str "FIGURES" "0123456789", .cls "Way", .mkr "Way", .noat "Way" "numbers", .cls "Border", .mkr "Border", .noat "Border" "names", .cls "Sides", .mkr "Sides", .noat "Sides" "sides", .cls "OddRing", .mkr "OddRing"]
def faL3 : List He.Fa := [.noat "OddRing" "numbers", .cls "Tie", .mkr "Tie", .noat "Tie" "number", .noat "Tie" "tail", .noat "Tie" "head", .noat "Tie" "load", .noat "Tie" "is_oneway", .cls "Web", .mkr "Web", .noat "Web" "crowd", .noat "Web" "tied", .noat "Web" "last_given", .meth "Web" "points", .meth "Web" "ties", .meth "Web" "given", .meth "Web" "need_point", .meth "Web" "need_new", .meth "Web" "need_room", .meth "Web" "put_point", .meth "Web" "drop_point", .meth "Web" "move_all", .meth "Web" "rename", .meth "Web" "put_tie", .meth "Web" "put_numbered", .meth "Web" "tie_of", .meth "Web" "drop_tie", .meth "Web" "set_load", .meth "Web" "join", .meth "Web" "part"]
def faL4 : List He.Fa := [.meth "Web" "give"]
def faL : List He.Fa := faL0 ++ (faL1 ++ (faL2 ++ (faL3 ++ (faL4))))
open PySem.W in
def exL (K : Frag) : List Bool := [decide (specialIn K (.builtin "object.__class__") "__get__" = some (some (.builtin "getset_descriptor.__get__"))),
  decide (takesIn K (.builtin "object.__class__") = some true),
  decide (findIn K (.ref (He.ga K "Way")) "__class__" = some (some (.builtin "object.__class__"))),
  decide (mroIn K (He.ga K "Way") (.type "object") = some true),
  decide (findIn K (.ref (He.ga K "Border")) "__class__" = some (some (.builtin "object.__class__"))),
  decide (mroIn K (He.ga K "Border") (.type "object") = some true),
  decide (findIn K (.ref (He.ga K "Sides")) "__class__" = some (some (.builtin "object.__class__"))),
  decide (mroIn K (He.ga K "Sides") (.type "object") = some true),
  decide (findIn K (.ref (He.ga K "OddRing")) "__class__" = some (some (.builtin "object.__class__"))),
  decide (mroIn K (He.ga K "OddRing") (.type "object") = some true),
  decide (kitOne K (.ref (He.ga K "Way")) (.ref (He.ga K "Way")) = some true),
  decide (kitOne K (.ref (He.ga K "Border")) (.ref (He.ga K "Way")) = some false),
  decide (kitOne K (.ref (He.ga K "Sides")) (.ref (He.ga K "Sides")) = some true),
  decide (kitOne K (.ref (He.ga K "OddRing")) (.ref (He.ga K "Sides")) = some false)]
def exB (K : PySem.W.Frag) : Bool := (exL K).all id
/-- what is known of the text in a run: K the written part -/
structure Tx (w : World) (K : PySem.W.Frag) (mg : Str → Option Value) : Prop where
  h : ∃ h : Heap, K.In h ∧ h.Ns mainGlobals mg
  t : He.SaysD faL fnL K
  more : exB K = true
def fdOf (K : PySem.W.Frag) (p : Str × Option Str) : FuncData := match K.lookup (He.fAd K p) with
  | some ⟨_, _, .func fd, _⟩ => fd
  | _ => PySem.W.fnOf "" "" ⟨[], [], none, [], [], none, []⟩ [] ⟨.function, [], false, false, []⟩ .none .none .none .none none .none .none
theorem fd_of {K : PySem.W.Frag} {x qual : Str} {params : Arguments} {body : List Stmt} {scope : Scope} {dvs : List V} {kws : List (Str × V)} {p : Str × Option Str} (h : ∃ fd, FunD K x qual params body scope dvs kws (He.fAd K p) fd) : FunD K x qual params body scope dvs kws (He.fAd K p) (fdOf K p) := by
  obtain ⟨fd, F⟩ := h
  have e : fdOf K p = fd := by
    obtain ⟨oc, od, dV, kV, doc, pm, an, cdv, ct, osl, e1, e2, _⟩ := F.ex
    unfold fdOf
    rw [e2]
  rw [e]
  exact F
theorem Tx.glo {w : World} {K : PySem.W.Frag} {mg : Str → Option Value} (T : Tx w K mg) {x : Str} (c : (He.Fa.glo x).ok K = true) : mg x = some (.ref (He.ga K x)) := let ⟨_, X, G⟩ := T.h; He.glo_ok X G c
theorem Tx.free {w : World} {K : PySem.W.Frag} {mg : Str → Option Value} (T : Tx w K mg) {x : Str} (c : (He.Fa.free x).ok K = true) : mg x = none := let ⟨_, X, G⟩ := T.h; He.free_ok X G c
theorem Tx.int {w : World} {K : PySem.W.Frag} {mg : Str → Option Value} (T : Tx w K mg) {x : Str} {i : Int} (c : (He.Fa.int x i).ok K = true) : ∃ t, mg x = some (.int i t) := let ⟨_, X, G⟩ := T.h; He.int_ok X G c
theorem Tx.str {w : World} {K : PySem.W.Frag} {mg : Str → Option Value} (T : Tx w K mg) {x z : Str} (c : (He.Fa.str x z).ok K = true) : ∃ t, mg x = some (.str z t) := let ⟨_, X, G⟩ := T.h; He.str_ok X G c
section
variable {w : World} {K : PySem.W.Frag} {mg : Str → Option Value} (T : Tx w K mg)
include T
theorem Tx.g_is_whole : mg "is_whole" = some (.ref (He.ga K "is_whole")) := T.glo (T.t.fact 0 rfl)
theorem Tx.g_is_among : mg "is_among" = some (.ref (He.ga K "is_among")) := T.glo (T.t.fact 1 rfl)
theorem Tx.g_are_signs : mg "are_signs" = some (.ref (He.ga K "are_signs")) := T.glo (T.t.fact 2 rfl)
theorem Tx.g_is_name : mg "is_name" = some (.ref (He.ga K "is_name")) := T.glo (T.t.fact 3 rfl)
theorem Tx.g_number_text : mg "number_text" = some (.ref (He.ga K "number_text")) := T.glo (T.t.fact 4 rfl)
theorem Tx.g_number_of : mg "number_of" = some (.ref (He.ga K "number_of")) := T.glo (T.t.fact 5 rfl)
theorem Tx.g_words_of : mg "words_of" = some (.ref (He.ga K "words_of")) := T.glo (T.t.fact 6 rfl)
theorem Tx.g_ends_by : mg "ends_by" = some (.ref (He.ga K "ends_by")) := T.glo (T.t.fact 7 rfl)
theorem Tx.g_came_from : mg "came_from" = some (.ref (He.ga K "came_from")) := T.glo (T.t.fact 8 rfl)
theorem Tx.g_way_back : mg "way_back" = some (.ref (He.ga K "way_back")) := T.glo (T.t.fact 9 rfl)
theorem Tx.g_in_order : mg "in_order" = some (.ref (He.ga K "in_order")) := T.glo (T.t.fact 10 rfl)
theorem Tx.g_pieces : mg "pieces" = some (.ref (He.ga K "pieces")) := T.glo (T.t.fact 11 rfl)
theorem Tx.g_together : mg "together" = some (.ref (He.ga K "together")) := T.glo (T.t.fact 12 rfl)
theorem Tx.g_trees_of : mg "trees_of" = some (.ref (He.ga K "trees_of")) := T.glo (T.t.fact 13 rfl)
theorem Tx.g_forest : mg "forest" = some (.ref (He.ga K "forest")) := T.glo (T.t.fact 14 rfl)
theorem Tx.g_need_forest : mg "need_forest" = some (.ref (He.ga K "need_forest")) := T.glo (T.t.fact 15 rfl)
theorem Tx.g_ring_by : mg "ring_by" = some (.ref (He.ga K "ring_by")) := T.glo (T.t.fact 16 rfl)
theorem Tx.g_sides : mg "sides" = some (.ref (He.ga K "sides")) := T.glo (T.t.fact 17 rfl)
theorem Tx.g_need_load : mg "need_load" = some (.ref (He.ga K "need_load")) := T.glo (T.t.fact 18 rfl)
theorem Tx.g_moved_tie : mg "moved_tie" = some (.ref (He.ga K "moved_tie")) := T.glo (T.t.fact 19 rfl)
theorem Tx.g_tie_line : mg "tie_line" = some (.ref (He.ga K "tie_line")) := T.glo (T.t.fact 20 rfl)
theorem Tx.g_web_lines : mg "web_lines" = some (.ref (He.ga K "web_lines")) := T.glo (T.t.fact 21 rfl)
theorem Tx.g_need_line : mg "need_line" = some (.ref (He.ga K "need_line")) := T.glo (T.t.fact 22 rfl)
theorem Tx.g_put_tie_line : mg "put_tie_line" = some (.ref (He.ga K "put_tie_line")) := T.glo (T.t.fact 23 rfl)
theorem Tx.g_put_line : mg "put_line" = some (.ref (He.ga K "put_line")) := T.glo (T.t.fact 24 rfl)
theorem Tx.g_web_of : mg "web_of" = some (.ref (He.ga K "web_of")) := T.glo (T.t.fact 25 rfl)
theorem Tx.g__law_draw : mg "_law_draw" = some (.ref (He.ga K "_law_draw")) := T.glo (T.t.fact 26 rfl)
theorem Tx.g__law_load : mg "_law_load" = some (.ref (He.ga K "_law_load")) := T.glo (T.t.fact 27 rfl)
theorem Tx.g__law_pool : mg "_law_pool" = some (.ref (He.ga K "_law_pool")) := T.glo (T.t.fact 28 rfl)
theorem Tx.g__law_whole : mg "_law_whole" = some (.ref (He.ga K "_law_whole")) := T.glo (T.t.fact 29 rfl)
theorem Tx.g__law_put_tie : mg "_law_put_tie" = some (.ref (He.ga K "_law_put_tie")) := T.glo (T.t.fact 30 rfl)
theorem Tx.g__law_tie_changed : mg "_law_tie_changed" = some (.ref (He.ga K "_law_tie_changed")) := T.glo (T.t.fact 31 rfl)
theorem Tx.g__law_moved : mg "_law_moved" = some (.ref (He.ga K "_law_moved")) := T.glo (T.t.fact 32 rfl)
theorem Tx.g__law_at : mg "_law_at" = some (.ref (He.ga K "_law_at")) := T.glo (T.t.fact 33 rfl)
theorem Tx.g__law_point_changed : mg "_law_point_changed" = some (.ref (He.ga K "_law_point_changed")) := T.glo (T.t.fact 34 rfl)
theorem Tx.g__law_deed : mg "_law_deed" = some (.ref (He.ga K "_law_deed")) := T.glo (T.t.fact 35 rfl)
theorem Tx.g__law_row : mg "_law_row" = some (.ref (He.ga K "_law_row")) := T.glo (T.t.fact 36 rfl)
theorem Tx.g__law_rows : mg "_law_rows" = some (.ref (He.ga K "_law_rows")) := T.glo (T.t.fact 37 rfl)
theorem Tx.g__law_stands : mg "_law_stands" = some (.ref (He.ga K "_law_stands")) := T.glo (T.t.fact 38 rfl)
theorem Tx.g__law_none : mg "_law_none" = some (.ref (He.ga K "_law_none")) := T.glo (T.t.fact 39 rfl)
theorem Tx.g__law_trees : mg "_law_trees" = some (.ref (He.ga K "_law_trees")) := T.glo (T.t.fact 40 rfl)
theorem Tx.g__law_pieces : mg "_law_pieces" = some (.ref (He.ga K "_law_pieces")) := T.glo (T.t.fact 41 rfl)
theorem Tx.g__law_gone : mg "_law_gone" = some (.ref (He.ga K "_law_gone")) := T.glo (T.t.fact 42 rfl)
theorem Tx.g__law_turned : mg "_law_turned" = some (.ref (He.ga K "_law_turned")) := T.glo (T.t.fact 43 rfl)
theorem Tx.g__law_rings_even : mg "_law_rings_even" = some (.ref (He.ga K "_law_rings_even")) := T.glo (T.t.fact 44 rfl)
theorem Tx.g__law_way_row : mg "_law_way_row" = some (.ref (He.ga K "_law_way_row")) := T.glo (T.t.fact 45 rfl)
theorem Tx.g__law_ways_good : mg "_law_ways_good" = some (.ref (He.ga K "_law_ways_good")) := T.glo (T.t.fact 46 rfl)
theorem Tx.g__law_good : mg "_law_good" = some (.ref (He.ga K "_law_good")) := T.glo (T.t.fact 47 rfl)
theorem Tx.g__law_filled : mg "_law_filled" = some (.ref (He.ga K "_law_filled")) := T.glo (T.t.fact 48 rfl)
theorem Tx.g_law : mg "law" = some (.ref (He.ga K "law")) := T.glo (T.t.fact 49 rfl)
theorem Tx.g_Way : mg "Way" = some (.ref (He.ga K "Way")) := T.glo (T.t.fact 50 rfl)
theorem Tx.g_Border : mg "Border" = some (.ref (He.ga K "Border")) := T.glo (T.t.fact 51 rfl)
theorem Tx.g_Sides : mg "Sides" = some (.ref (He.ga K "Sides")) := T.glo (T.t.fact 52 rfl)
theorem Tx.g_OddRing : mg "OddRing" = some (.ref (He.ga K "OddRing")) := T.glo (T.t.fact 53 rfl)
theorem Tx.g_Tie : mg "Tie" = some (.ref (He.ga K "Tie")) := T.glo (T.t.fact 54 rfl)
theorem Tx.g_Web : mg "Web" = some (.ref (He.ga K "Web")) := T.glo (T.t.fact 55 rfl)
theorem Tx.b_isinstance : mg "isinstance" = none := T.free (T.t.fact 56 rfl)
theorem Tx.b_len : mg "len" = none := T.free (T.t.fact 57 rfl)
theorem Tx.b_sorted : mg "sorted" = none := T.free (T.t.fact 58 rfl)
theorem Tx.b_list : mg "list" = none := T.free (T.t.fact 59 rfl)
theorem Tx.b_dict : mg "dict" = none := T.free (T.t.fact 60 rfl)
theorem Tx.b_any : mg "any" = none := T.free (T.t.fact 61 rfl)
theorem Tx.b_all : mg "all" = none := T.free (T.t.fact 62 rfl)
theorem Tx.b_enumerate : mg "enumerate" = none := T.free (T.t.fact 63 rfl)
theorem Tx.b_zip : mg "zip" = none := T.free (T.t.fact 64 rfl)
theorem Tx.b_range : mg "range" = none := T.free (T.t.fact 65 rfl)
theorem Tx.b_int : mg "int" = none := T.free (T.t.fact 66 rfl)
theorem Tx.b_str : mg "str" = none := T.free (T.t.fact 67 rfl)
theorem Tx.b_sum : mg "sum" = none := T.free (T.t.fact 68 rfl)
theorem Tx.b_repr : mg "repr" = none := T.free (T.t.fact 69 rfl)
theorem Tx.b_set : mg "set" = none := T.free (T.t.fact 70 rfl)
theorem Tx.b_bool : mg "bool" = none := T.free (T.t.fact 71 rfl)
theorem Tx.i_MOST_LETTERS : ∃ t, mg "MOST_LETTERS" = some (.int 12 t) := T.int (T.t.fact 72 rfl)
theorem Tx.i_MOST_FIGURES : ∃ t, mg "MOST_FIGURES" = some (.int 61 t) := T.int (T.t.fact 73 rfl)
theorem Tx.i_MOST : ∃ t, mg "MOST" = some (.int (10 ^ 60) t) := T.int (T.t.fact 74 rfl)
theorem Tx.i_MOST_POINTS : ∃ t, mg "MOST_POINTS" = some (.int 16 t) := T.int (T.t.fact 75 rfl)
theorem Tx.i_MOST_TIES : ∃ t, mg "MOST_TIES" = some (.int 48 t) := T.int (T.t.fact 76 rfl)
theorem Tx.s_LETTERS : ∃ t, mg "LETTERS" = some (.str "abcdefghijklmnopqrstuvwxyz" t) := T.str (T.t.fact 77 rfl)
theorem Tx.s_FIGURES : ∃ t, mg "FIGURES" = some (.str "0123456789" t) := T.str (T.t.fact 78 rfl)
theorem Tx.c_Way : Cls K (He.ga K "Way") := He.cls_ok (T.t.fact 79 rfl)
theorem Tx.k_Way : Mk K (He.ga K "Way") (He.ma K (He.ga K "Way") "__init__") := He.mkr_ok (T.t.fact 80 rfl)
theorem Tx.n_Way_numbers : NoAttr K (He.ga K "Way") "numbers" := He.noat_ok (T.t.fact 81 rfl)
theorem Tx.c_Border : Cls K (He.ga K "Border") := He.cls_ok (T.t.fact 82 rfl)
theorem Tx.k_Border : Mk K (He.ga K "Border") (He.ma K (He.ga K "Border") "__init__") := He.mkr_ok (T.t.fact 83 rfl)
theorem Tx.n_Border_names : NoAttr K (He.ga K "Border") "names" := He.noat_ok (T.t.fact 84 rfl)
theorem Tx.c_Sides : Cls K (He.ga K "Sides") := He.cls_ok (T.t.fact 85 rfl)
theorem Tx.k_Sides : Mk K (He.ga K "Sides") (He.ma K (He.ga K "Sides") "__init__") := He.mkr_ok (T.t.fact 86 rfl)
theorem Tx.n_Sides_sides : NoAttr K (He.ga K "Sides") "sides" := He.noat_ok (T.t.fact 87 rfl)
theorem Tx.c_OddRing : Cls K (He.ga K "OddRing") := He.cls_ok (T.t.fact 88 rfl)
theorem Tx.k_OddRing : Mk K (He.ga K "OddRing") (He.ma K (He.ga K "OddRing") "__init__") := He.mkr_ok (T.t.fact 89 rfl)
theorem Tx.n_OddRing_numbers : NoAttr K (He.ga K "OddRing") "numbers" := He.noat_ok (T.t.fact 90 rfl)
theorem Tx.c_Tie : Cls K (He.ga K "Tie") := He.cls_ok (T.t.fact 91 rfl)
theorem Tx.k_Tie : Mk K (He.ga K "Tie") (He.ma K (He.ga K "Tie") "__init__") := He.mkr_ok (T.t.fact 92 rfl)
theorem Tx.n_Tie_number : NoAttr K (He.ga K "Tie") "number" := He.noat_ok (T.t.fact 93 rfl)
theorem Tx.n_Tie_tail : NoAttr K (He.ga K "Tie") "tail" := He.noat_ok (T.t.fact 94 rfl)
theorem Tx.n_Tie_head : NoAttr K (He.ga K "Tie") "head" := He.noat_ok (T.t.fact 95 rfl)
theorem Tx.n_Tie_load : NoAttr K (He.ga K "Tie") "load" := He.noat_ok (T.t.fact 96 rfl)
theorem Tx.n_Tie_is_oneway : NoAttr K (He.ga K "Tie") "is_oneway" := He.noat_ok (T.t.fact 97 rfl)
theorem Tx.c_Web : Cls K (He.ga K "Web") := He.cls_ok (T.t.fact 98 rfl)
theorem Tx.k_Web : Mk K (He.ga K "Web") (He.ma K (He.ga K "Web") "__init__") := He.mkr_ok (T.t.fact 99 rfl)
theorem Tx.n_Web_crowd : NoAttr K (He.ga K "Web") "crowd" := He.noat_ok (T.t.fact 100 rfl)
theorem Tx.n_Web_tied : NoAttr K (He.ga K "Web") "tied" := He.noat_ok (T.t.fact 101 rfl)
theorem Tx.n_Web_last_given : NoAttr K (He.ga K "Web") "last_given" := He.noat_ok (T.t.fact 102 rfl)
theorem Tx.m_Web_points : Meth K (He.ga K "Web") "points" (He.ma K (He.ga K "Web") "points") := He.meth_ok (T.t.fact 103 rfl)
theorem Tx.m_Web_ties : Meth K (He.ga K "Web") "ties" (He.ma K (He.ga K "Web") "ties") := He.meth_ok (T.t.fact 104 rfl)
theorem Tx.m_Web_given : Meth K (He.ga K "Web") "given" (He.ma K (He.ga K "Web") "given") := He.meth_ok (T.t.fact 105 rfl)
theorem Tx.m_Web_need_point : Meth K (He.ga K "Web") "need_point" (He.ma K (He.ga K "Web") "need_point") := He.meth_ok (T.t.fact 106 rfl)
theorem Tx.m_Web_need_new : Meth K (He.ga K "Web") "need_new" (He.ma K (He.ga K "Web") "need_new") := He.meth_ok (T.t.fact 107 rfl)
theorem Tx.m_Web_need_room : Meth K (He.ga K "Web") "need_room" (He.ma K (He.ga K "Web") "need_room") := He.meth_ok (T.t.fact 108 rfl)
theorem Tx.m_Web_put_point : Meth K (He.ga K "Web") "put_point" (He.ma K (He.ga K "Web") "put_point") := He.meth_ok (T.t.fact 109 rfl)
theorem Tx.m_Web_drop_point : Meth K (He.ga K "Web") "drop_point" (He.ma K (He.ga K "Web") "drop_point") := He.meth_ok (T.t.fact 110 rfl)
theorem Tx.m_Web_move_all : Meth K (He.ga K "Web") "move_all" (He.ma K (He.ga K "Web") "move_all") := He.meth_ok (T.t.fact 111 rfl)
theorem Tx.m_Web_rename : Meth K (He.ga K "Web") "rename" (He.ma K (He.ga K "Web") "rename") := He.meth_ok (T.t.fact 112 rfl)
theorem Tx.m_Web_put_tie : Meth K (He.ga K "Web") "put_tie" (He.ma K (He.ga K "Web") "put_tie") := He.meth_ok (T.t.fact 113 rfl)
theorem Tx.m_Web_put_numbered : Meth K (He.ga K "Web") "put_numbered" (He.ma K (He.ga K "Web") "put_numbered") := He.meth_ok (T.t.fact 114 rfl)
theorem Tx.m_Web_tie_of : Meth K (He.ga K "Web") "tie_of" (He.ma K (He.ga K "Web") "tie_of") := He.meth_ok (T.t.fact 115 rfl)
theorem Tx.m_Web_drop_tie : Meth K (He.ga K "Web") "drop_tie" (He.ma K (He.ga K "Web") "drop_tie") := He.meth_ok (T.t.fact 116 rfl)
theorem Tx.m_Web_set_load : Meth K (He.ga K "Web") "set_load" (He.ma K (He.ga K "Web") "set_load") := He.meth_ok (T.t.fact 117 rfl)
theorem Tx.m_Web_join : Meth K (He.ga K "Web") "join" (He.ma K (He.ga K "Web") "join") := He.meth_ok (T.t.fact 118 rfl)
theorem Tx.m_Web_part : Meth K (He.ga K "Web") "part" (He.ma K (He.ga K "Web") "part") := He.meth_ok (T.t.fact 119 rfl)
theorem Tx.m_Web_give : Meth K (He.ga K "Web") "give" (He.ma K (He.ga K "Web") "give") := He.meth_ok (T.t.fact 120 rfl)
theorem Tx.f_is_whole : FunD K "is_whole" "is_whole" (defArgs s_is_whole) (defBody s_is_whole) (defScope s_is_whole) [] [] (He.fAd K ("is_whole", none)) (fdOf K ("is_whole", none)) := fd_of (T.t.def_ 0 (d := d_is_whole) rfl)
theorem Tx.f_is_among : FunD K "is_among" "is_among" (defArgs s_is_among) (defBody s_is_among) (defScope s_is_among) [] [] (He.fAd K ("is_among", none)) (fdOf K ("is_among", none)) := fd_of (T.t.def_ 1 (d := d_is_among) rfl)
theorem Tx.f_are_signs : FunD K "are_signs" "are_signs" (defArgs s_are_signs) (defBody s_are_signs) (defScope s_are_signs) [] [] (He.fAd K ("are_signs", none)) (fdOf K ("are_signs", none)) := fd_of (T.t.def_ 2 (d := d_are_signs) rfl)
theorem Tx.f_is_name : FunD K "is_name" "is_name" (defArgs s_is_name) (defBody s_is_name) (defScope s_is_name) [] [] (He.fAd K ("is_name", none)) (fdOf K ("is_name", none)) := fd_of (T.t.def_ 3 (d := d_is_name) rfl)
theorem Tx.f_number_text : FunD K "number_text" "number_text" (defArgs s_number_text) (defBody s_number_text) (defScope s_number_text) [] [] (He.fAd K ("number_text", none)) (fdOf K ("number_text", none)) := fd_of (T.t.def_ 4 (d := d_number_text) rfl)
theorem Tx.f_number_of : FunD K "number_of" "number_of" (defArgs s_number_of) (defBody s_number_of) (defScope s_number_of) [] [] (He.fAd K ("number_of", none)) (fdOf K ("number_of", none)) := fd_of (T.t.def_ 5 (d := d_number_of) rfl)
theorem Tx.f_words_of : FunD K "words_of" "words_of" (defArgs s_words_of) (defBody s_words_of) (defScope s_words_of) [] [] (He.fAd K ("words_of", none)) (fdOf K ("words_of", none)) := fd_of (T.t.def_ 6 (d := d_words_of) rfl)
theorem Tx.f_Way_init : FunD K "__init__" "Way.__init__" (defArgs s_Way_init) (defBody s_Way_init) (defScope s_Way_init) [] [] (He.fAd K ("Way", some "__init__")) (fdOf K ("Way", some "__init__")) := fd_of (T.t.def_ 7 (d := d_Way_init) rfl)
theorem Tx.f_Border_init : FunD K "__init__" "Border.__init__" (defArgs s_Border_init) (defBody s_Border_init) (defScope s_Border_init) [] [] (He.fAd K ("Border", some "__init__")) (fdOf K ("Border", some "__init__")) := fd_of (T.t.def_ 8 (d := d_Border_init) rfl)
theorem Tx.f_Sides_init : FunD K "__init__" "Sides.__init__" (defArgs s_Sides_init) (defBody s_Sides_init) (defScope s_Sides_init) [] [] (He.fAd K ("Sides", some "__init__")) (fdOf K ("Sides", some "__init__")) := fd_of (T.t.def_ 9 (d := d_Sides_init) rfl)
theorem Tx.f_OddRing_init : FunD K "__init__" "OddRing.__init__" (defArgs s_OddRing_init) (defBody s_OddRing_init) (defScope s_OddRing_init) [] [] (He.fAd K ("OddRing", some "__init__")) (fdOf K ("OddRing", some "__init__")) := fd_of (T.t.def_ 10 (d := d_OddRing_init) rfl)
theorem Tx.f_ends_by : FunD K "ends_by" "ends_by" (defArgs s_ends_by) (defBody s_ends_by) (defScope s_ends_by) [] [] (He.fAd K ("ends_by", none)) (fdOf K ("ends_by", none)) := fd_of (T.t.def_ 11 (d := d_ends_by) rfl)
theorem Tx.f_came_from : FunD K "came_from" "came_from" (defArgs s_came_from) (defBody s_came_from) (defScope s_came_from) [] [] (He.fAd K ("came_from", none)) (fdOf K ("came_from", none)) := fd_of (T.t.def_ 12 (d := d_came_from) rfl)
theorem Tx.f_way_back : FunD K "way_back" "way_back" (defArgs s_way_back) (defBody s_way_back) (defScope s_way_back) [] [] (He.fAd K ("way_back", none)) (fdOf K ("way_back", none)) := fd_of (T.t.def_ 13 (d := d_way_back) rfl)
theorem Tx.f_in_order : FunD K "in_order" "in_order" (defArgs s_in_order) (defBody s_in_order) (defScope s_in_order) [] [] (He.fAd K ("in_order", none)) (fdOf K ("in_order", none)) := fd_of (T.t.def_ 14 (d := d_in_order) rfl)
theorem Tx.f_pieces : FunD K "pieces" "pieces" (defArgs s_pieces) (defBody s_pieces) (defScope s_pieces) [] [] (He.fAd K ("pieces", none)) (fdOf K ("pieces", none)) := fd_of (T.t.def_ 15 (d := d_pieces) rfl)
theorem Tx.f_together : FunD K "together" "together" (defArgs s_together) (defBody s_together) (defScope s_together) [] [] (He.fAd K ("together", none)) (fdOf K ("together", none)) := fd_of (T.t.def_ 16 (d := d_together) rfl)
theorem Tx.f_trees_of : FunD K "trees_of" "trees_of" (defArgs s_trees_of) (defBody s_trees_of) (defScope s_trees_of) [] [] (He.fAd K ("trees_of", none)) (fdOf K ("trees_of", none)) := fd_of (T.t.def_ 17 (d := d_trees_of) rfl)
theorem Tx.f_forest : FunD K "forest" "forest" (defArgs s_forest) (defBody s_forest) (defScope s_forest) [] [] (He.fAd K ("forest", none)) (fdOf K ("forest", none)) := fd_of (T.t.def_ 18 (d := d_forest) rfl)
theorem Tx.f_need_forest : FunD K "need_forest" "need_forest" (defArgs s_need_forest) (defBody s_need_forest) (defScope s_need_forest) [] [] (He.fAd K ("need_forest", none)) (fdOf K ("need_forest", none)) := fd_of (T.t.def_ 19 (d := d_need_forest) rfl)
theorem Tx.f_ring_by : FunD K "ring_by" "ring_by" (defArgs s_ring_by) (defBody s_ring_by) (defScope s_ring_by) [] [] (He.fAd K ("ring_by", none)) (fdOf K ("ring_by", none)) := fd_of (T.t.def_ 20 (d := d_ring_by) rfl)
theorem Tx.f_sides : FunD K "sides" "sides" (defArgs s_sides) (defBody s_sides) (defScope s_sides) [] [] (He.fAd K ("sides", none)) (fdOf K ("sides", none)) := fd_of (T.t.def_ 21 (d := d_sides) rfl)
theorem Tx.f_need_load : FunD K "need_load" "need_load" (defArgs s_need_load) (defBody s_need_load) (defScope s_need_load) [] [] (He.fAd K ("need_load", none)) (fdOf K ("need_load", none)) := fd_of (T.t.def_ 22 (d := d_need_load) rfl)
theorem Tx.f_Tie_init : FunD K "__init__" "Tie.__init__" (defArgs s_Tie_init) (defBody s_Tie_init) (defScope s_Tie_init) [] [] (He.fAd K ("Tie", some "__init__")) (fdOf K ("Tie", some "__init__")) := fd_of (T.t.def_ 23 (d := d_Tie_init) rfl)
theorem Tx.f_moved_tie : FunD K "moved_tie" "moved_tie" (defArgs s_moved_tie) (defBody s_moved_tie) (defScope s_moved_tie) [] [] (He.fAd K ("moved_tie", none)) (fdOf K ("moved_tie", none)) := fd_of (T.t.def_ 24 (d := d_moved_tie) rfl)
theorem Tx.f_Web_init : FunD K "__init__" "Web.__init__" (defArgs s_Web_init) (defBody s_Web_init) (defScope s_Web_init) [] [] (He.fAd K ("Web", some "__init__")) (fdOf K ("Web", some "__init__")) := fd_of (T.t.def_ 25 (d := d_Web_init) rfl)
theorem Tx.f_Web_points : FunD K "points" "Web.points" (defArgs s_Web_points) (defBody s_Web_points) (defScope s_Web_points) [] [] (He.fAd K ("Web", some "points")) (fdOf K ("Web", some "points")) := fd_of (T.t.def_ 26 (d := d_Web_points) rfl)
theorem Tx.f_Web_ties : FunD K "ties" "Web.ties" (defArgs s_Web_ties) (defBody s_Web_ties) (defScope s_Web_ties) [] [] (He.fAd K ("Web", some "ties")) (fdOf K ("Web", some "ties")) := fd_of (T.t.def_ 27 (d := d_Web_ties) rfl)
theorem Tx.f_Web_given : FunD K "given" "Web.given" (defArgs s_Web_given) (defBody s_Web_given) (defScope s_Web_given) [] [] (He.fAd K ("Web", some "given")) (fdOf K ("Web", some "given")) := fd_of (T.t.def_ 28 (d := d_Web_given) rfl)
theorem Tx.f_Web_need_point : FunD K "need_point" "Web.need_point" (defArgs s_Web_need_point) (defBody s_Web_need_point) (defScope s_Web_need_point) [] [] (He.fAd K ("Web", some "need_point")) (fdOf K ("Web", some "need_point")) := fd_of (T.t.def_ 29 (d := d_Web_need_point) rfl)
theorem Tx.f_Web_need_new : FunD K "need_new" "Web.need_new" (defArgs s_Web_need_new) (defBody s_Web_need_new) (defScope s_Web_need_new) [] [] (He.fAd K ("Web", some "need_new")) (fdOf K ("Web", some "need_new")) := fd_of (T.t.def_ 30 (d := d_Web_need_new) rfl)
theorem Tx.f_Web_need_room : FunD K "need_room" "Web.need_room" (defArgs s_Web_need_room) (defBody s_Web_need_room) (defScope s_Web_need_room) [] [] (He.fAd K ("Web", some "need_room")) (fdOf K ("Web", some "need_room")) := fd_of (T.t.def_ 31 (d := d_Web_need_room) rfl)
theorem Tx.f_Web_put_point : FunD K "put_point" "Web.put_point" (defArgs s_Web_put_point) (defBody s_Web_put_point) (defScope s_Web_put_point) [] [] (He.fAd K ("Web", some "put_point")) (fdOf K ("Web", some "put_point")) := fd_of (T.t.def_ 32 (d := d_Web_put_point) rfl)
theorem Tx.f_Web_drop_point : FunD K "drop_point" "Web.drop_point" (defArgs s_Web_drop_point) (defBody s_Web_drop_point) (defScope s_Web_drop_point) [] [] (He.fAd K ("Web", some "drop_point")) (fdOf K ("Web", some "drop_point")) := fd_of (T.t.def_ 33 (d := d_Web_drop_point) rfl)
theorem Tx.f_Web_move_all : FunD K "move_all" "Web.move_all" (defArgs s_Web_move_all) (defBody s_Web_move_all) (defScope s_Web_move_all) [] [] (He.fAd K ("Web", some "move_all")) (fdOf K ("Web", some "move_all")) := fd_of (T.t.def_ 34 (d := d_Web_move_all) rfl)
theorem Tx.f_Web_rename : FunD K "rename" "Web.rename" (defArgs s_Web_rename) (defBody s_Web_rename) (defScope s_Web_rename) [] [] (He.fAd K ("Web", some "rename")) (fdOf K ("Web", some "rename")) := fd_of (T.t.def_ 35 (d := d_Web_rename) rfl)
theorem Tx.f_Web_put_tie : FunD K "put_tie" "Web.put_tie" (defArgs s_Web_put_tie) (defBody s_Web_put_tie) (defScope s_Web_put_tie) [.int 0, .bl false] [] (He.fAd K ("Web", some "put_tie")) (fdOf K ("Web", some "put_tie")) := fd_of (T.t.def_ 36 (d := d_Web_put_tie) rfl)
theorem Tx.f_Web_put_numbered : FunD K "put_numbered" "Web.put_numbered" (defArgs s_Web_put_numbered) (defBody s_Web_put_numbered) (defScope s_Web_put_numbered) [] [] (He.fAd K ("Web", some "put_numbered")) (fdOf K ("Web", some "put_numbered")) := fd_of (T.t.def_ 37 (d := d_Web_put_numbered) rfl)
theorem Tx.f_Web_tie_of : FunD K "tie_of" "Web.tie_of" (defArgs s_Web_tie_of) (defBody s_Web_tie_of) (defScope s_Web_tie_of) [] [] (He.fAd K ("Web", some "tie_of")) (fdOf K ("Web", some "tie_of")) := fd_of (T.t.def_ 38 (d := d_Web_tie_of) rfl)
theorem Tx.f_Web_drop_tie : FunD K "drop_tie" "Web.drop_tie" (defArgs s_Web_drop_tie) (defBody s_Web_drop_tie) (defScope s_Web_drop_tie) [] [] (He.fAd K ("Web", some "drop_tie")) (fdOf K ("Web", some "drop_tie")) := fd_of (T.t.def_ 39 (d := d_Web_drop_tie) rfl)
theorem Tx.f_Web_set_load : FunD K "set_load" "Web.set_load" (defArgs s_Web_set_load) (defBody s_Web_set_load) (defScope s_Web_set_load) [] [] (He.fAd K ("Web", some "set_load")) (fdOf K ("Web", some "set_load")) := fd_of (T.t.def_ 40 (d := d_Web_set_load) rfl)
theorem Tx.f_Web_join : FunD K "join" "Web.join" (defArgs s_Web_join) (defBody s_Web_join) (defScope s_Web_join) [] [] (He.fAd K ("Web", some "join")) (fdOf K ("Web", some "join")) := fd_of (T.t.def_ 41 (d := d_Web_join) rfl)
theorem Tx.f_Web_part : FunD K "part" "Web.part" (defArgs s_Web_part) (defBody s_Web_part) (defScope s_Web_part) [] [] (He.fAd K ("Web", some "part")) (fdOf K ("Web", some "part")) := fd_of (T.t.def_ 42 (d := d_Web_part) rfl)
theorem Tx.f_Web_give : FunD K "give" "Web.give" (defArgs s_Web_give) (defBody s_Web_give) (defScope s_Web_give) [] [] (He.fAd K ("Web", some "give")) (fdOf K ("Web", some "give")) := fd_of (T.t.def_ 43 (d := d_Web_give) rfl)
theorem Tx.f_tie_line : FunD K "tie_line" "tie_line" (defArgs s_tie_line) (defBody s_tie_line) (defScope s_tie_line) [] [] (He.fAd K ("tie_line", none)) (fdOf K ("tie_line", none)) := fd_of (T.t.def_ 44 (d := d_tie_line) rfl)
theorem Tx.f_web_lines : FunD K "web_lines" "web_lines" (defArgs s_web_lines) (defBody s_web_lines) (defScope s_web_lines) [] [] (He.fAd K ("web_lines", none)) (fdOf K ("web_lines", none)) := fd_of (T.t.def_ 45 (d := d_web_lines) rfl)
theorem Tx.f_need_line : FunD K "need_line" "need_line" (defArgs s_need_line) (defBody s_need_line) (defScope s_need_line) [] [] (He.fAd K ("need_line", none)) (fdOf K ("need_line", none)) := fd_of (T.t.def_ 46 (d := d_need_line) rfl)
theorem Tx.f_put_tie_line : FunD K "put_tie_line" "put_tie_line" (defArgs s_put_tie_line) (defBody s_put_tie_line) (defScope s_put_tie_line) [] [] (He.fAd K ("put_tie_line", none)) (fdOf K ("put_tie_line", none)) := fd_of (T.t.def_ 47 (d := d_put_tie_line) rfl)
theorem Tx.f_put_line : FunD K "put_line" "put_line" (defArgs s_put_line) (defBody s_put_line) (defScope s_put_line) [] [] (He.fAd K ("put_line", none)) (fdOf K ("put_line", none)) := fd_of (T.t.def_ 48 (d := d_put_line) rfl)
theorem Tx.f_web_of : FunD K "web_of" "web_of" (defArgs s_web_of) (defBody s_web_of) (defScope s_web_of) [] [] (He.fAd K ("web_of", none)) (fdOf K ("web_of", none)) := fd_of (T.t.def_ 49 (d := d_web_of) rfl)
theorem Tx.f_law_draw : FunD K "_law_draw" "_law_draw" (defArgs s_law_draw) (defBody s_law_draw) (defScope s_law_draw) [] [] (He.fAd K ("_law_draw", none)) (fdOf K ("_law_draw", none)) := fd_of (T.t.def_ 50 (d := d_law_draw) rfl)
theorem Tx.f_law_load : FunD K "_law_load" "_law_load" (defArgs s_law_load) (defBody s_law_load) (defScope s_law_load) [] [] (He.fAd K ("_law_load", none)) (fdOf K ("_law_load", none)) := fd_of (T.t.def_ 51 (d := d_law_load) rfl)
theorem Tx.f_law_pool : FunD K "_law_pool" "_law_pool" (defArgs s_law_pool) (defBody s_law_pool) (defScope s_law_pool) [] [] (He.fAd K ("_law_pool", none)) (fdOf K ("_law_pool", none)) := fd_of (T.t.def_ 52 (d := d_law_pool) rfl)
theorem Tx.f_law_whole : FunD K "_law_whole" "_law_whole" (defArgs s_law_whole) (defBody s_law_whole) (defScope s_law_whole) [] [] (He.fAd K ("_law_whole", none)) (fdOf K ("_law_whole", none)) := fd_of (T.t.def_ 53 (d := d_law_whole) rfl)
theorem Tx.f_law_put_tie : FunD K "_law_put_tie" "_law_put_tie" (defArgs s_law_put_tie) (defBody s_law_put_tie) (defScope s_law_put_tie) [] [] (He.fAd K ("_law_put_tie", none)) (fdOf K ("_law_put_tie", none)) := fd_of (T.t.def_ 54 (d := d_law_put_tie) rfl)
theorem Tx.f_law_tie_changed : FunD K "_law_tie_changed" "_law_tie_changed" (defArgs s_law_tie_changed) (defBody s_law_tie_changed) (defScope s_law_tie_changed) [] [] (He.fAd K ("_law_tie_changed", none)) (fdOf K ("_law_tie_changed", none)) := fd_of (T.t.def_ 55 (d := d_law_tie_changed) rfl)
theorem Tx.f_law_moved : FunD K "_law_moved" "_law_moved" (defArgs s_law_moved) (defBody s_law_moved) (defScope s_law_moved) [] [] (He.fAd K ("_law_moved", none)) (fdOf K ("_law_moved", none)) := fd_of (T.t.def_ 56 (d := d_law_moved) rfl)
theorem Tx.f_law_at : FunD K "_law_at" "_law_at" (defArgs s_law_at) (defBody s_law_at) (defScope s_law_at) [] [] (He.fAd K ("_law_at", none)) (fdOf K ("_law_at", none)) := fd_of (T.t.def_ 57 (d := d_law_at) rfl)
theorem Tx.f_law_point_changed : FunD K "_law_point_changed" "_law_point_changed" (defArgs s_law_point_changed) (defBody s_law_point_changed) (defScope s_law_point_changed) [] [] (He.fAd K ("_law_point_changed", none)) (fdOf K ("_law_point_changed", none)) := fd_of (T.t.def_ 58 (d := d_law_point_changed) rfl)
theorem Tx.f_law_deed : FunD K "_law_deed" "_law_deed" (defArgs s_law_deed) (defBody s_law_deed) (defScope s_law_deed) [] [] (He.fAd K ("_law_deed", none)) (fdOf K ("_law_deed", none)) := fd_of (T.t.def_ 59 (d := d_law_deed) rfl)
theorem Tx.f_law_row : FunD K "_law_row" "_law_row" (defArgs s_law_row) (defBody s_law_row) (defScope s_law_row) [] [] (He.fAd K ("_law_row", none)) (fdOf K ("_law_row", none)) := fd_of (T.t.def_ 60 (d := d_law_row) rfl)
theorem Tx.f_law_rows : FunD K "_law_rows" "_law_rows" (defArgs s_law_rows) (defBody s_law_rows) (defScope s_law_rows) [] [] (He.fAd K ("_law_rows", none)) (fdOf K ("_law_rows", none)) := fd_of (T.t.def_ 61 (d := d_law_rows) rfl)
theorem Tx.f_law_stands : FunD K "_law_stands" "_law_stands" (defArgs s_law_stands) (defBody s_law_stands) (defScope s_law_stands) [] [] (He.fAd K ("_law_stands", none)) (fdOf K ("_law_stands", none)) := fd_of (T.t.def_ 62 (d := d_law_stands) rfl)
theorem Tx.f_law_none : FunD K "_law_none" "_law_none" (defArgs s_law_none) (defBody s_law_none) (defScope s_law_none) [] [] (He.fAd K ("_law_none", none)) (fdOf K ("_law_none", none)) := fd_of (T.t.def_ 63 (d := d_law_none) rfl)
theorem Tx.f_law_trees : FunD K "_law_trees" "_law_trees" (defArgs s_law_trees) (defBody s_law_trees) (defScope s_law_trees) [] [] (He.fAd K ("_law_trees", none)) (fdOf K ("_law_trees", none)) := fd_of (T.t.def_ 64 (d := d_law_trees) rfl)
theorem Tx.f_law_pieces : FunD K "_law_pieces" "_law_pieces" (defArgs s_law_pieces) (defBody s_law_pieces) (defScope s_law_pieces) [] [] (He.fAd K ("_law_pieces", none)) (fdOf K ("_law_pieces", none)) := fd_of (T.t.def_ 65 (d := d_law_pieces) rfl)
theorem Tx.f_law_gone : FunD K "_law_gone" "_law_gone" (defArgs s_law_gone) (defBody s_law_gone) (defScope s_law_gone) [] [] (He.fAd K ("_law_gone", none)) (fdOf K ("_law_gone", none)) := fd_of (T.t.def_ 66 (d := d_law_gone) rfl)
theorem Tx.f_law_turned : FunD K "_law_turned" "_law_turned" (defArgs s_law_turned) (defBody s_law_turned) (defScope s_law_turned) [] [] (He.fAd K ("_law_turned", none)) (fdOf K ("_law_turned", none)) := fd_of (T.t.def_ 67 (d := d_law_turned) rfl)
theorem Tx.f_law_rings_even : FunD K "_law_rings_even" "_law_rings_even" (defArgs s_law_rings_even) (defBody s_law_rings_even) (defScope s_law_rings_even) [] [] (He.fAd K ("_law_rings_even", none)) (fdOf K ("_law_rings_even", none)) := fd_of (T.t.def_ 68 (d := d_law_rings_even) rfl)
theorem Tx.f_law_way_row : FunD K "_law_way_row" "_law_way_row" (defArgs s_law_way_row) (defBody s_law_way_row) (defScope s_law_way_row) [] [] (He.fAd K ("_law_way_row", none)) (fdOf K ("_law_way_row", none)) := fd_of (T.t.def_ 69 (d := d_law_way_row) rfl)
theorem Tx.f_law_ways_good : FunD K "_law_ways_good" "_law_ways_good" (defArgs s_law_ways_good) (defBody s_law_ways_good) (defScope s_law_ways_good) [] [] (He.fAd K ("_law_ways_good", none)) (fdOf K ("_law_ways_good", none)) := fd_of (T.t.def_ 70 (d := d_law_ways_good) rfl)
theorem Tx.f_law_good : FunD K "_law_good" "_law_good" (defArgs s_law_good) (defBody s_law_good) (defScope s_law_good) [] [] (He.fAd K ("_law_good", none)) (fdOf K ("_law_good", none)) := fd_of (T.t.def_ 71 (d := d_law_good) rfl)
theorem Tx.f_law_filled : FunD K "_law_filled" "_law_filled" (defArgs s_law_filled) (defBody s_law_filled) (defScope s_law_filled) [] [] (He.fAd K ("_law_filled", none)) (fdOf K ("_law_filled", none)) := fd_of (T.t.def_ 72 (d := d_law_filled) rfl)
theorem Tx.f_law : FunD K "law" "law" (defArgs s_law) (defBody s_law) (defScope s_law) [] [] (He.fAd K ("law", none)) (fdOf K ("law", none)) := fd_of (T.t.def_ 73 (d := d_law) rfl)
theorem Tx.y_is_whole : Binds K (fdOf K ("is_whole", none)) ["thing"] [] := T.f_is_whole.bindsN fun _ _ _ _ _ _ us hl => match us, hl with | [_], _ => rfl
theorem Tx.y_is_among : Binds K (fdOf K ("is_among", none)) ["thing", "least", "most"] [] := T.f_is_among.bindsN fun _ _ _ _ _ _ us hl => match us, hl with | [_, _, _], _ => rfl
theorem Tx.y_are_signs : Binds K (fdOf K ("are_signs", none)) ["text", "signs"] [] := T.f_are_signs.bindsN fun _ _ _ _ _ _ us hl => match us, hl with | [_, _], _ => rfl
theorem Tx.y_is_name : Binds K (fdOf K ("is_name", none)) ["thing"] [] := T.f_is_name.bindsN fun _ _ _ _ _ _ us hl => match us, hl with | [_], _ => rfl
theorem Tx.y_number_text : Binds K (fdOf K ("number_text", none)) ["number"] [] := T.f_number_text.bindsN fun _ _ _ _ _ _ us hl => match us, hl with | [_], _ => rfl
theorem Tx.y_number_of : Binds K (fdOf K ("number_of", none)) ["word"] [] := T.f_number_of.bindsN fun _ _ _ _ _ _ us hl => match us, hl with | [_], _ => rfl
theorem Tx.y_words_of : Binds K (fdOf K ("words_of", none)) ["line"] [] := T.f_words_of.bindsN fun _ _ _ _ _ _ us hl => match us, hl with | [_], _ => rfl
theorem Tx.y_Way_init : Binds K (fdOf K ("Way", some "__init__")) ["self", "numbers"] [] := T.f_Way_init.bindsN fun _ _ _ _ _ _ us hl => match us, hl with | [_, _], _ => rfl
theorem Tx.y_Border_init : Binds K (fdOf K ("Border", some "__init__")) ["self", "names"] [] := T.f_Border_init.bindsN fun _ _ _ _ _ _ us hl => match us, hl with | [_, _], _ => rfl
theorem Tx.y_Sides_init : Binds K (fdOf K ("Sides", some "__init__")) ["self", "sides"] [] := T.f_Sides_init.bindsN fun _ _ _ _ _ _ us hl => match us, hl with | [_, _], _ => rfl
theorem Tx.y_OddRing_init : Binds K (fdOf K ("OddRing", some "__init__")) ["self", "numbers"] [] := T.f_OddRing_init.bindsN fun _ _ _ _ _ _ us hl => match us, hl with | [_, _], _ => rfl
theorem Tx.y_ends_by : Binds K (fdOf K ("ends_by", none)) ["some"] [] := T.f_ends_by.bindsN fun _ _ _ _ _ _ us hl => match us, hl with | [_], _ => rfl
theorem Tx.y_came_from : Binds K (fdOf K ("came_from", none)) ["beside", "start"] [] := T.f_came_from.bindsN fun _ _ _ _ _ _ us hl => match us, hl with | [_, _], _ => rfl
theorem Tx.y_way_back : Binds K (fdOf K ("way_back", none)) ["came", "goal"] [] := T.f_way_back.bindsN fun _ _ _ _ _ _ us hl => match us, hl with | [_, _], _ => rfl
theorem Tx.y_in_order : Binds K (fdOf K ("in_order", none)) ["web", "some"] [] := T.f_in_order.bindsN fun _ _ _ _ _ _ us hl => match us, hl with | [_, _], _ => rfl
theorem Tx.y_pieces : Binds K (fdOf K ("pieces", none)) ["web"] [] := T.f_pieces.bindsN fun _ _ _ _ _ _ us hl => match us, hl with | [_], _ => rfl
theorem Tx.y_together : Binds K (fdOf K ("together", none)) ["web", "one", "other"] [] := T.f_together.bindsN fun _ _ _ _ _ _ us hl => match us, hl with | [_, _, _], _ => rfl
theorem Tx.y_trees_of : Binds K (fdOf K ("trees_of", none)) ["web", "some"] [] := T.f_trees_of.bindsN fun _ _ _ _ _ _ us hl => match us, hl with | [_, _], _ => rfl
theorem Tx.y_forest : Binds K (fdOf K ("forest", none)) ["web"] [] := T.f_forest.bindsN fun _ _ _ _ _ _ us hl => match us, hl with | [_], _ => rfl
theorem Tx.y_need_forest : Binds K (fdOf K ("need_forest", none)) ["web", "numbers"] [] := T.f_need_forest.bindsN fun _ _ _ _ _ _ us hl => match us, hl with | [_, _], _ => rfl
theorem Tx.y_ring_by : Binds K (fdOf K ("ring_by", none)) ["web", "numbers", "number"] [] := T.f_ring_by.bindsN fun _ _ _ _ _ _ us hl => match us, hl with | [_, _, _], _ => rfl
theorem Tx.y_sides : Binds K (fdOf K ("sides", none)) ["web"] [] := T.f_sides.bindsN fun _ _ _ _ _ _ us hl => match us, hl with | [_], _ => rfl
theorem Tx.y_need_load : Binds K (fdOf K ("need_load", none)) ["load"] [] := T.f_need_load.bindsN fun _ _ _ _ _ _ us hl => match us, hl with | [_], _ => rfl
theorem Tx.y_Tie_init : Binds K (fdOf K ("Tie", some "__init__")) ["self", "number", "tail", "head", "load", "is_oneway"] [] := T.f_Tie_init.bindsN fun _ _ _ _ _ _ us hl => match us, hl with | [_, _, _, _, _, _], _ => rfl
theorem Tx.y_moved_tie : Binds K (fdOf K ("moved_tie", none)) ["tie", "name", "other"] [] := T.f_moved_tie.bindsN fun _ _ _ _ _ _ us hl => match us, hl with | [_, _, _], _ => rfl
theorem Tx.y_Web_init : Binds K (fdOf K ("Web", some "__init__")) ["self"] [] := T.f_Web_init.bindsN fun _ _ _ _ _ _ us hl => match us, hl with | [_], _ => rfl
theorem Tx.y_Web_points : Binds K (fdOf K ("Web", some "points")) ["self"] [] := T.f_Web_points.bindsN fun _ _ _ _ _ _ us hl => match us, hl with | [_], _ => rfl
theorem Tx.y_Web_ties : Binds K (fdOf K ("Web", some "ties")) ["self"] [] := T.f_Web_ties.bindsN fun _ _ _ _ _ _ us hl => match us, hl with | [_], _ => rfl
theorem Tx.y_Web_given : Binds K (fdOf K ("Web", some "given")) ["self"] [] := T.f_Web_given.bindsN fun _ _ _ _ _ _ us hl => match us, hl with | [_], _ => rfl
theorem Tx.y_Web_need_point : Binds K (fdOf K ("Web", some "need_point")) ["self", "name"] [] := T.f_Web_need_point.bindsN fun _ _ _ _ _ _ us hl => match us, hl with | [_, _], _ => rfl
theorem Tx.y_Web_need_new : Binds K (fdOf K ("Web", some "need_new")) ["self", "name"] [] := T.f_Web_need_new.bindsN fun _ _ _ _ _ _ us hl => match us, hl with | [_, _], _ => rfl
theorem Tx.y_Web_need_room : Binds K (fdOf K ("Web", some "need_room")) ["self"] [] := T.f_Web_need_room.bindsN fun _ _ _ _ _ _ us hl => match us, hl with | [_], _ => rfl
theorem Tx.y_Web_put_point : Binds K (fdOf K ("Web", some "put_point")) ["self", "name"] [] := T.f_Web_put_point.bindsN fun _ _ _ _ _ _ us hl => match us, hl with | [_, _], _ => rfl
theorem Tx.y_Web_drop_point : Binds K (fdOf K ("Web", some "drop_point")) ["self", "name"] [] := T.f_Web_drop_point.bindsN fun _ _ _ _ _ _ us hl => match us, hl with | [_, _], _ => rfl
theorem Tx.y_Web_move_all : Binds K (fdOf K ("Web", some "move_all")) ["self", "name", "other"] [] := T.f_Web_move_all.bindsN fun _ _ _ _ _ _ us hl => match us, hl with | [_, _, _], _ => rfl
theorem Tx.y_Web_rename : Binds K (fdOf K ("Web", some "rename")) ["self", "name", "other"] [] := T.f_Web_rename.bindsN fun _ _ _ _ _ _ us hl => match us, hl with | [_, _, _], _ => rfl
theorem Tx.y_Web_put_numbered : Binds K (fdOf K ("Web", some "put_numbered")) ["self", "number", "tail", "head", "load", "is_oneway"] [] := T.f_Web_put_numbered.bindsN fun _ _ _ _ _ _ us hl => match us, hl with | [_, _, _, _, _, _], _ => rfl
theorem Tx.y_Web_tie_of : Binds K (fdOf K ("Web", some "tie_of")) ["self", "number"] [] := T.f_Web_tie_of.bindsN fun _ _ _ _ _ _ us hl => match us, hl with | [_, _], _ => rfl
theorem Tx.y_Web_drop_tie : Binds K (fdOf K ("Web", some "drop_tie")) ["self", "number"] [] := T.f_Web_drop_tie.bindsN fun _ _ _ _ _ _ us hl => match us, hl with | [_, _], _ => rfl
theorem Tx.y_Web_set_load : Binds K (fdOf K ("Web", some "set_load")) ["self", "number", "load"] [] := T.f_Web_set_load.bindsN fun _ _ _ _ _ _ us hl => match us, hl with | [_, _, _], _ => rfl
theorem Tx.y_Web_join : Binds K (fdOf K ("Web", some "join")) ["self", "name", "other"] [] := T.f_Web_join.bindsN fun _ _ _ _ _ _ us hl => match us, hl with | [_, _, _], _ => rfl
theorem Tx.y_Web_part : Binds K (fdOf K ("Web", some "part")) ["self", "name", "other", "numbers"] [] := T.f_Web_part.bindsN fun _ _ _ _ _ _ us hl => match us, hl with | [_, _, _, _], _ => rfl
theorem Tx.y_Web_give : Binds K (fdOf K ("Web", some "give")) ["self", "number"] [] := T.f_Web_give.bindsN fun _ _ _ _ _ _ us hl => match us, hl with | [_, _], _ => rfl
theorem Tx.y_tie_line : Binds K (fdOf K ("tie_line", none)) ["tie"] [] := T.f_tie_line.bindsN fun _ _ _ _ _ _ us hl => match us, hl with | [_], _ => rfl
theorem Tx.y_web_lines : Binds K (fdOf K ("web_lines", none)) ["web"] [] := T.f_web_lines.bindsN fun _ _ _ _ _ _ us hl => match us, hl with | [_], _ => rfl
theorem Tx.y_need_line : Binds K (fdOf K ("need_line", none)) ["good"] [] := T.f_need_line.bindsN fun _ _ _ _ _ _ us hl => match us, hl with | [_], _ => rfl
theorem Tx.y_put_tie_line : Binds K (fdOf K ("put_tie_line", none)) ["web", "words"] [] := T.f_put_tie_line.bindsN fun _ _ _ _ _ _ us hl => match us, hl with | [_, _], _ => rfl
theorem Tx.y_put_line : Binds K (fdOf K ("put_line", none)) ["web", "line"] [] := T.f_put_line.bindsN fun _ _ _ _ _ _ us hl => match us, hl with | [_, _], _ => rfl
theorem Tx.y_web_of : Binds K (fdOf K ("web_of", none)) ["lines"] [] := T.f_web_of.bindsN fun _ _ _ _ _ _ us hl => match us, hl with | [_], _ => rfl
theorem Tx.y_law_draw : Binds K (fdOf K ("_law_draw", none)) ["_law_cell", "_law_k", "_law_j"] [] := T.f_law_draw.bindsN fun _ _ _ _ _ _ us hl => match us, hl with | [_, _, _], _ => rfl
theorem Tx.y_law_load : Binds K (fdOf K ("_law_load", none)) ["_law_cell", "_law_k", "_law_j"] [] := T.f_law_load.bindsN fun _ _ _ _ _ _ us hl => match us, hl with | [_, _, _], _ => rfl
theorem Tx.y_law_pool : Binds K (fdOf K ("_law_pool", none)) ["_law_cell"] [] := T.f_law_pool.bindsN fun _ _ _ _ _ _ us hl => match us, hl with | [_], _ => rfl
theorem Tx.y_law_whole : Binds K (fdOf K ("_law_whole", none)) ["_law_thing", "_law_due"] [] := T.f_law_whole.bindsN fun _ _ _ _ _ _ us hl => match us, hl with | [_, _], _ => rfl
theorem Tx.y_law_put_tie : Binds K (fdOf K ("_law_put_tie", none)) ["_law_web", "_law_model", "_law_cell", "_law_k"] [] := T.f_law_put_tie.bindsN fun _ _ _ _ _ _ us hl => match us, hl with | [_, _, _, _], _ => rfl
theorem Tx.y_law_tie_changed : Binds K (fdOf K ("_law_tie_changed", none)) ["_law_web", "_law_model", "_law_cell", "_law_k", "_law_is_gone"] [] := T.f_law_tie_changed.bindsN fun _ _ _ _ _ _ us hl => match us, hl with | [_, _, _, _, _], _ => rfl
theorem Tx.y_law_moved : Binds K (fdOf K ("_law_moved", none)) ["_law_model", "_law_name", "_law_other", "_law_numbers"] [] := T.f_law_moved.bindsN fun _ _ _ _ _ _ us hl => match us, hl with | [_, _, _, _], _ => rfl
theorem Tx.y_law_at : Binds K (fdOf K ("_law_at", none)) ["_law_model", "_law_name"] [] := T.f_law_at.bindsN fun _ _ _ _ _ _ us hl => match us, hl with | [_, _], _ => rfl
theorem Tx.y_law_point_changed : Binds K (fdOf K ("_law_point_changed", none)) ["_law_web", "_law_model", "_law_free", "_law_cell", "_law_k", "_law_way"] [] := T.f_law_point_changed.bindsN fun _ _ _ _ _ _ us hl => match us, hl with | [_, _, _, _, _, _], _ => rfl
theorem Tx.y_law_deed : Binds K (fdOf K ("_law_deed", none)) ["_law_web", "_law_model", "_law_pool_here", "_law_cell", "_law_k"] [] := T.f_law_deed.bindsN fun _ _ _ _ _ _ us hl => match us, hl with | [_, _, _, _, _], _ => rfl
theorem Tx.y_law_row : Binds K (fdOf K ("_law_row", none)) ["_law_tie"] [] := T.f_law_row.bindsN fun _ _ _ _ _ _ us hl => match us, hl with | [_], _ => rfl
theorem Tx.y_law_rows : Binds K (fdOf K ("_law_rows", none)) ["_law_model"] [] := T.f_law_rows.bindsN fun _ _ _ _ _ _ us hl => match us, hl with | [_], _ => rfl
theorem Tx.y_law_stands : Binds K (fdOf K ("_law_stands", none)) ["_law_web", "_law_model"] [] := T.f_law_stands.bindsN fun _ _ _ _ _ _ us hl => match us, hl with | [_, _], _ => rfl
theorem Tx.y_law_none : Binds K (fdOf K ("_law_none", none)) [] [] := T.f_law_none.bindsN fun _ _ _ _ _ _ us hl => match us, hl with | [], _ => rfl
theorem Tx.y_law_trees : Binds K (fdOf K ("_law_trees", none)) ["_law_model", "_law_numbers"] [] := T.f_law_trees.bindsN fun _ _ _ _ _ _ us hl => match us, hl with | [_, _], _ => rfl
theorem Tx.y_law_pieces : Binds K (fdOf K ("_law_pieces", none)) ["_law_model"] [] := T.f_law_pieces.bindsN fun _ _ _ _ _ _ us hl => match us, hl with | [_], _ => rfl
theorem Tx.y_law_gone : Binds K (fdOf K ("_law_gone", none)) ["_law_model", "_law_numbers", "_law_start"] [] := T.f_law_gone.bindsN fun _ _ _ _ _ _ us hl => match us, hl with | [_, _, _], _ => rfl
theorem Tx.y_law_turned : Binds K (fdOf K ("_law_turned", none)) ["_law_lines", "_law_n", "_law_way"] [] := T.f_law_turned.bindsN fun _ _ _ _ _ _ us hl => match us, hl with | [_, _, _], _ => rfl
theorem Tx.y_law_rings_even : Binds K (fdOf K ("_law_rings_even", none)) ["_law_web", "_law_model", "_law_chosen"] [] := T.f_law_rings_even.bindsN fun _ _ _ _ _ _ us hl => match us, hl with | [_, _, _], _ => rfl
theorem Tx.y_law_way_row : Binds K (fdOf K ("_law_way_row", none)) ["_law_found"] [] := T.f_law_way_row.bindsN fun _ _ _ _ _ _ us hl => match us, hl with | [_], _ => rfl
theorem Tx.y_law_ways_good : Binds K (fdOf K ("_law_ways_good", none)) ["_law_web", "_law_model", "_law_mine", "_law_n"] [] := T.f_law_ways_good.bindsN fun _ _ _ _ _ _ us hl => match us, hl with | [_, _, _, _], _ => rfl
theorem Tx.y_law_good : Binds K (fdOf K ("_law_good", none)) ["_law_web", "_law_model", "_law_n", "_law_held"] [] := T.f_law_good.bindsN fun _ _ _ _ _ _ us hl => match us, hl with | [_, _, _, _], _ => rfl
theorem Tx.y_law_filled : Binds K (fdOf K ("_law_filled", none)) ["_law_web", "_law_model", "_law_pool_here", "_law_n"] [] := T.f_law_filled.bindsN fun _ _ _ _ _ _ us hl => match us, hl with | [_, _, _, _], _ => rfl
theorem Tx.y_law : Binds K (fdOf K ("law", none)) ["_law_script"] [] := T.f_law.bindsN fun _ _ _ _ _ _ us hl => match us, hl with | [_], _ => rfl
theorem Tx.yd0_Web_put_tie : ∃ ds, Vals [V.int 0, V.bl false] ds ∧ Binds K (fdOf K ("Web", some "put_tie")) ["self", "tail", "head", "load", "is_oneway"] ds :=
  T.f_Web_put_tie.binds1 3 0 (by decide) rfl fun _ _ _ _ _ _ _ us its h1 h2 => match us, its, h1, h2 with | [_, _, _], [_, _], _, _ => ⟨_, rfl, rfl⟩
theorem Tx.yd1_Web_put_tie : ∃ ds, Vals [V.bl false] ds ∧ Binds K (fdOf K ("Web", some "put_tie")) ["self", "tail", "head", "load", "is_oneway"] ds :=
  T.f_Web_put_tie.binds1 4 1 (by decide) rfl fun _ _ _ _ _ _ _ us its h1 h2 => match us, its, h1, h2 with | [_, _, _, _], [_, _], _, _ => ⟨_, rfl, rfl⟩
theorem Tx.yd2_Web_put_tie : Binds K (fdOf K ("Web", some "put_tie")) ["self", "tail", "head", "load", "is_oneway"] [] := by
  obtain ⟨ds, h, b⟩ := T.f_Web_put_tie.binds1 (ps := ["self", "tail", "head", "load", "is_oneway"]) 5 2 (by decide) rfl fun _ _ _ _ _ _ _ us its h1 h2 => match us, its, h1, h2 with | [_, _, _, _, _], [_, _], _, _ => ⟨_, rfl, rfl⟩
  cases h
  exact b
theorem Tx.ex (i : Nat) {b : Bool} (h : (exL K)[i]? = some b := by rfl) : b = true := by
  have z := T.more
  unfold exB at z
  exact List.all_eq_true.mp z b (List.mem_of_getElem? h)
theorem Tx.ty_Way {H : Hp} {a dx : Addr} {fs : List (Str × V)} (h : H a = some (.ins (He.ga K "Way") dx fs)) : TyX K H (.ref a) (.ref (He.ga K "Way")) := .base (.ins h T.c_Way (of_decide_eq_true (T.ex 2)) (of_decide_eq_true (T.ex 0)) (of_decide_eq_true (T.ex 1)) (of_decide_eq_true (T.ex 3)))
theorem Tx.ty_Border {H : Hp} {a dx : Addr} {fs : List (Str × V)} (h : H a = some (.ins (He.ga K "Border") dx fs)) : TyX K H (.ref a) (.ref (He.ga K "Border")) := .base (.ins h T.c_Border (of_decide_eq_true (T.ex 4)) (of_decide_eq_true (T.ex 0)) (of_decide_eq_true (T.ex 1)) (of_decide_eq_true (T.ex 5)))
theorem Tx.ty_Sides {H : Hp} {a dx : Addr} {fs : List (Str × V)} (h : H a = some (.ins (He.ga K "Sides") dx fs)) : TyX K H (.ref a) (.ref (He.ga K "Sides")) := .base (.ins h T.c_Sides (of_decide_eq_true (T.ex 6)) (of_decide_eq_true (T.ex 0)) (of_decide_eq_true (T.ex 1)) (of_decide_eq_true (T.ex 7)))
theorem Tx.ty_OddRing {H : Hp} {a dx : Addr} {fs : List (Str × V)} (h : H a = some (.ins (He.ga K "OddRing") dx fs)) : TyX K H (.ref a) (.ref (He.ga K "OddRing")) := .base (.ins h T.c_OddRing (of_decide_eq_true (T.ex 8)) (of_decide_eq_true (T.ex 0)) (of_decide_eq_true (T.ex 1)) (of_decide_eq_true (T.ex 9)))
theorem Tx.kit_Way_Way : PySem.W.kitOne K (.ref (He.ga K "Way")) (.ref (He.ga K "Way")) = some true := of_decide_eq_true (T.ex 10)
theorem Tx.kit_Border_Way : PySem.W.kitOne K (.ref (He.ga K "Border")) (.ref (He.ga K "Way")) = some false := of_decide_eq_true (T.ex 11)
theorem Tx.kit_Sides_Sides : PySem.W.kitOne K (.ref (He.ga K "Sides")) (.ref (He.ga K "Sides")) = some true := of_decide_eq_true (T.ex 12)
theorem Tx.kit_OddRing_Sides : PySem.W.kitOne K (.ref (He.ga K "OddRing")) (.ref (He.ga K "Sides")) = some false := of_decide_eq_true (T.ex 13)
end
end RB
set_option maxHeartbeats 0
/-! The head: the top's run, with what it leaves (printed by genhead.py). -/
namespace RB
open PySem PySem.W PySem.Calls PyProof.Rows
/-! ### the written part: the objects of some kinds, built up before they are looked at -/
def kindOk : Obj → Bool
  | ⟨_, _, .func _, _⟩ => true
  | ⟨_, _, .cls _, _⟩ => true
  | ⟨_, _, .dict _ _, _⟩ => true
  | ⟨.type c, _, .fields _, _⟩ => c == "code"
  | ⟨_, _, .seq _ _, _⟩ => true
  | _ => false
def pick {β : Type} (g : Addr → Option Obj) : Nat → Nat → PySem.W.Frag → (PySem.W.Frag → β) → β
  | 0, _, acc, k => k acc
  | m + 1, a, acc, k => match g a with
    | some o => match kindOk o with
      | true => pick g m (a + 1) ((a, o) :: acc) k
      | false => pick g m (a + 1) acc k
    | none => pick g m (a + 1) acc k
theorem lookup_good {g : Addr → Option Obj} : ∀ {l : PySem.W.Frag}, (∀ p ∈ l, g p.1 = some p.2) → ∀ {a o}, l.lookup a = some o → g a = some o
  | [], _, _, _, h => by cases h
  | (b, u) :: r, q, a, o, h => by
    have h2 : (match a == b with | true => some u | false => r.lookup a) = some o := h
    cases e : (a == b) with
    | true =>
      rw [e] at h2
      have e2 : u = o := Option.some.inj h2
      rw [beq_iff_eq.mp e, ← e2]
      exact q (b, u) List.mem_cons_self
    | false =>
      rw [e] at h2
      exact lookup_good (fun p hp => q p (List.mem_cons_of_mem _ hp)) h2
theorem pick_of {β : Type} {g : Addr → Option Obj} {k : PySem.W.Frag → β} {v : β} : ∀ {m a : Nat} {acc : PySem.W.Frag}, (∀ p ∈ acc, g p.1 = some p.2) → pick g m a acc k = v → ∃ K : PySem.W.Frag, (∀ p ∈ K, g p.1 = some p.2) ∧ k K = v
  | 0, _, acc, q, h => ⟨acc, q, h⟩
  | m + 1, a, acc, q, h => by
    have h1 : (match g a with
      | some o => match kindOk o with
        | true => pick g m (a + 1) ((a, o) :: acc) k
        | false => pick g m (a + 1) acc k
      | none => pick g m (a + 1) acc k) = v := h
    cases e : g a with
    | none =>
      rw [e] at h1
      exact pick_of q h1
    | some o =>
      rw [e] at h1
      have h2 : (match kindOk o with
        | true => pick g m (a + 1) ((a, o) :: acc) k
        | false => pick g m (a + 1) acc k) = v := h1
      cases e2 : kindOk o with
      | true =>
        rw [e2] at h2
        refine pick_of (fun p hp => ?_) h2
        rcases List.mem_cons.mp hp with rfl | hp
        · exact e
        · exact q p hp
      | false =>
        rw [e2] at h2
        exact pick_of q h2
abbrev HkA : Type := He.AlD × Bool
def hkObs (g : Addr → Option Obj) (n : Nat) : HkA := pick g n 0 [] fun K => (He.obsD faL fnL K, exB K)
def hkVal : HkA := (He.valD fnL, true)
def hk : PySem.W.Hook where
  α := HkA
  obs := fun s => hkObs s.heap.get? s.heap.objs.size
  val := fun _ => hkVal
  says := fun _ h => ∃ K : PySem.W.Frag, K.In h ∧ He.SaysD faL fnL K ∧ exB K = true
  of := fun _ s e => by
    obtain ⟨K, hK, e2⟩ := pick_of (g := s.heap.get?) (fun p hp => absurd hp List.not_mem_nil) e
    exact ⟨K, fun _ _ q => lookup_good hK q, congrArg (fun z : HkA => z.1) e2, congrArg (fun z : HkA => z.2) e2⟩
  keeps := fun _ _ _ ⟨K, hK, c⟩ k => ⟨K, PySem.W.Frag.In.keeps hK k, c⟩
def hkOb (s : PySem.W.SharedT) : hk.α := hkObs (HandSHeadRun.getT s) s.n
theorem hkOb_eq (s : PySem.W.SharedT) : hkOb s = hk.obs s.abs := by
  have e : HandSHeadRun.getT s = s.abs.heap.get? := funext (HandSHeadRun.getT_eq s)
  have e2 : s.n = s.abs.heap.objs.size := (absHeap_size s.tree s.n s.life).symm
  show hkObs (HandSHeadRun.getT s) s.n = hkObs s.abs.heap.get? s.abs.heap.objs.size
  rw [e, ← e2]
abbrev hR : OpenRow := OpenLaw.row PySem.Challenge.rw_reachbook_k09_whole_plain_ties
abbrev hQ : Program := view hR.prog [80]
def loose0 : List PySem.Str := ["_wall", "WebError", "BadName", "Twice", "TooMany", "BadTie", "BadLoad", "HasTies", "SamePoint", "BadForest", "NoPoint", "NoTie", "BadLine", "LETTERS", "FIGURES", "MOST_LETTERS", "MOST_FIGURES", "is_whole", "is_among", "are_signs", "is_name", "number_text", "number_of", "words_of", "Way", "Border", "Sides", "OddRing", "ends_by", "came_from"]
def loose1 : List PySem.Str := ["way_back", "in_order", "pieces", "together", "trees_of", "forest", "need_forest", "ring_by", "sides", "MOST", "MOST_POINTS", "MOST_TIES", "need_load", "Tie", "moved_tie", "Web", "tie_line", "web_lines", "need_line", "put_tie_line", "put_line", "web_of", "_law_draw", "_law_load", "_law_pool", "_law_whole", "_law_put_tie", "_law_tie_changed", "_law_moved", "_law_at"]
def loose2 : List PySem.Str := ["_law_point_changed", "_law_deed", "_law_row", "_law_rows", "_law_stands", "_law_none", "_law_trees", "_law_pieces", "_law_gone", "_law_turned", "_law_rings_even", "_law_way_row", "_law_ways_good", "_law_good", "_law_filled"]
def loose : List PySem.Str := loose0 ++ (loose1 ++ (loose2))
theorem hRun (w : World) : HandSHeadRun.RunEq hR hQ hk hkOb 20000 loose w := by
  intro os
  kernel_rfl
end RB
set_option maxHeartbeats 4000000
/-! What stands in the heap, and the bookkeeping of loops. -/
namespace RB
open PySem PySem.Spec PyProof.Rows L2
theorem hu65 {A : Around} {k : Nat} (hr : Room k A) : A.units + 65 < cLine := by have := hr.un; omega
abbrev Tr := RB.Tie Str
abbrev Wr := RB.Wb Str
/-! ### the heap -/
theorem same_new {H : Hp} {p : Addr} {o : HO} (h : H p = none) : Same H (upd H p o) := fun a u e => by
  rw [upd_ne (ne_of_none e h)]
  exact e
/-- a thing of one's own changes -/
theorem same_own {H H' : Hp} {p : Addr} {o : HO} (s : Same H H') (h : H p = none) : Same H (upd H' p o) := fun a u e => by
  rw [upd_ne (ne_of_none e h)]
  exact s a u e
/-- all but some addresses stand as before -/
def Keep (S : List Addr) (H H' : Hp) : Prop := ∀ b o, b ∉ S → H b = some o → H' b = some o
theorem Keep.refl (S : List Addr) (H : Hp) : Keep S H H := fun _ _ _ h => h
theorem Keep.trans {S : List Addr} {H H1 H2 : Hp} (a : Keep S H H1) (b : Keep S H1 H2) : Keep S H H2 := fun c o n h => b c o n (a c o n h)
theorem Keep.of {S : List Addr} {H H' : Hp} (s : Same H H') : Keep S H H' := fun b o _ h => s b o h
theorem Keep.mono {S S' : List Addr} {H H' : Hp} (k : Keep S H H') (h : ∀ b ∈ S, b ∈ S') : Keep S' H H' := fun b o n e => k b o (fun z => n (h b z)) e
theorem Keep.put {S : List Addr} {H H' : Hp} {p : Addr} {o : HO} (k : Keep S H H') (h : p ∈ S) : Keep S H (upd H' p o) := fun b u n e => by
  have ne : b ≠ p := by rintro rfl; exact n h
  rw [upd_ne ne]
  exact k b u n e
theorem Keep.own {S : List Addr} {H H' : Hp} {p : Addr} {o : HO} (k : Keep S H H') (h : H p = none) : Keep S H (upd H' p o) := fun b u n e => by
  rw [upd_ne (ne_of_none e h)]
  exact k b u n e
/-- the heap without one address -/
def del (H : Hp) (d : Addr) : Hp := fun b => if b = d then none else H b
theorem del_ne {H : Hp} {b d : Addr} (h : b ≠ d) : del H d b = H b := if_neg h
theorem del_same {H : Hp} {d : Addr} : del H d d = none := if_pos rfl
theorem del_some {H : Hp} {b d : Addr} {o : HO} (h : del H d b = some o) : b ≠ d ∧ H b = some o := by
  by_cases e : b = d
  · subst e; rw [del_same] at h; cases h
  · rw [del_ne e] at h; exact ⟨e, h⟩
theorem del_mono {H H' : Hp} {d : Addr} (s : Same H H') : Same (del H d) (del H' d) := fun b o h => by
  obtain ⟨ne, q⟩ := del_some h
  rw [del_ne ne]
  exact s b o q
theorem del_upd {H : Hp} {d : Addr} {o : HO} : del (upd H d o) d = del H d := by
  funext b
  by_cases e : b = d
  · subst e; rw [del_same, del_same]
  · rw [del_ne e, del_ne e, upd_ne e]
theorem del_sub {H : Hp} {d : Addr} : Same (del H d) H := fun b o h => (del_some h).2
theorem same_del {H H' : Hp} {d : Addr} (s : Same H H') (h : H d = none) : Same H (del H' d) := fun b o e => by
  rw [del_ne (ne_of_none e h)]
  exact s b o e
theorem sz {n : Nat} (h : n ≤ 100000) : n ≤ sizeLine := Nat.le_trans h (by decide)
theorem sz' {n : Nat} (h : n ≤ 100000) : n < sizeLine := Nat.lt_of_le_of_lt h (by decide)

/-! ### loops -/
section
variable {J : It} {g : TG} {tb : TS} {D : Ends} {σ : L2.St} {H : Hp}
abbrev ForW (J : It) (g : TG) (tb : TS) (D : Ends) (σ : L2.St) (H : Hp) : Prop := ∃ W : Nat → Nat → L2.St → Hp → Prop, (∃ m, W 0 m σ H) ∧ ∀ i m σ H, W i m σ H →
  (J.stop i H ∧ D.nx σ H) ∨ (J.go i H ∧ ∃ N : L2.St → Hp → Prop, (∀ σ' H', N σ' H' → ∃ m', m' < m ∧ W (i + 1) m' σ' H') ∧ ∀ x H', J.yld i H x H' → g x σ H' fun σ2 H2 => tb { D with nx := N, ct := N, bk := D.nx } σ2 H2)
theorem forG (n : Nat) (P : Nat → L2.St → Hp → Prop) (h0 : P 0 σ H) (go : ∀ i σ' H', i < n → P i σ' H' → J.go i H') (stop : ∀ σ' H', P n σ' H' → J.stop n H')
    (turn : ∀ i σ' H', i < n → P i σ' H' → ∀ x H2, J.yld i H' x H2 → g x σ' H2 fun σ3 H3 => tb { D with nx := P (i + 1), ct := P (i + 1), bk := D.nx } σ3 H3)
    (fin : ∀ σ' H', P n σ' H' → D.nx σ' H') : ForW J g tb D σ H := by
  refine ⟨fun i m σ' H' => m = n - i ∧ i ≤ n ∧ P i σ' H', ⟨n, rfl, Nat.zero_le _, h0⟩, ?_⟩
  rintro i m σ' H' ⟨rfl, hi, p⟩
  by_cases c : i < n
  · exact .inr ⟨go i σ' H' c p, P (i + 1), fun σ2 H2 q => ⟨n - (i + 1), by omega, rfl, c, q⟩, fun x H2 y => turn i σ' H' c p x H2 y⟩
  · obtain rfl : i = n := by omega
    exact .inl ⟨stop σ' H' p, fin σ' H' p⟩
variable {K : PySem.W.Frag} {β : Type}
theorem split_at {l : List β} {i : Nat} {y : β} (h : l[i]? = some y) : l = l.take i ++ y :: l.drop (i + 1) := by
  obtain ⟨hi, e⟩ := List.getElem?_eq_some_iff.mp h
  conv => lhs; rw [← List.take_append_drop i l]
  rw [List.drop_eq_getElem_cons hi, e]
theorem take_snoc {l : List β} {i : Nat} {y : β} (h : l[i]? = some y) : l.take (i + 1) = l.take i ++ [y] := by
  rw [List.take_add_one, h]
  rfl
/-- for over a list whose items are told by ys -/
theorem forL {a : Addr} (ys : List β) (enc : β → V) (hx : SqL K H a (ys.map enc)) (P : List β → L2.St → Hp → Prop) (h0 : P [] σ H)
    (keep : ∀ done rest σ' H', ys = done ++ rest → P done σ' H' → SqL K H' a (ys.map enc))
    (turn : ∀ done y rest σ' H', ys = done ++ y :: rest → P done σ' H' → g (enc y) σ' H' fun σ2 H2 => tb { D with nx := P (done ++ [y]), ct := P (done ++ [y]), bk := D.nx } σ2 H2)
    (fin : ∀ σ' H', P ys σ' H' → D.nx σ' H') : ∃ a', V.ref a = .ref a' ∧ (∃ xs, SqL K H a' xs) ∧ ForW (Itl K a') g tb D σ H := by
  refine ⟨a, rfl, ⟨_, hx⟩, for_list (xs := ys.map enc) (fun i σ' H' => P (ys.take i) σ' H') h0 (fun i σ' H' _ p => keep (ys.take i) (ys.drop i) σ' H' (List.take_append_drop _ _).symm p) (fun i x σ' H' hi p => ?_) fun σ' H' p => ?_⟩
  · rw [List.getElem?_map] at hi
    cases e : ys[i]? with
    | none => rw [e] at hi; cases hi
    | some y =>
      rw [e] at hi
      cases hi
      have q := turn (ys.take i) y (ys.drop (i + 1)) σ' H' (split_at e) p
      rw [← take_snoc e] at q
      exact q
  · rw [List.length_map, List.take_length] at p
    exact fin σ' H' p
/-- for over range(n) -/
theorem forR {n : Nat} (P : Nat → L2.St → Hp → Prop) (h0 : P 0 σ H) (turn : ∀ i σ' H', i < n → P i σ' H' → g (.int (i : Int)) σ' H' fun σ2 H2 => tb { D with nx := P (i + 1), ct := P (i + 1), bk := D.nx } σ2 H2)
    (fin : ∀ σ' H', P n σ' H' → D.nx σ' H') : ForW (Itr 0 n) g tb D σ H :=
  for_range (lo := 0) (n := n) P h0 (fun i σ' H' hi p => by have q := turn i σ' H' hi p; rw [Int.zero_add]; exact q) fin
end
/-! ### comprehensions -/
section
variable {J : It} {g : TG} {tt : TT} {te : TE} {vs : List Nat} {σ : L2.St} {H : Hp} {d : Addr} {Q : Hp → Prop}
abbrev LcW (J : It) (g : TG) (tt : TT) (te : TE) (vs : List Nat) (σ : L2.St) (H : Hp) (d : Addr) (Q : Hp → Prop) : Prop := ∃ W : Nat → Nat → Hp → Prop, (∃ m, W 0 m (upd H d (.lst []))) ∧ ∀ i m H, W i m H →
  (J.stop i H ∧ Q H) ∨ (J.go i H ∧ ∃ Nx : Hp → Prop, (∀ H', Nx H' → ∃ m', m' < m ∧ W (i + 1) m' H') ∧ ∀ x H', J.yld i H x H' → g x (wipe σ vs) H' fun σ2 H2 => wipe σ2 vs = wipe σ vs ∧ tt σ2 H2 fun b H3 =>
    if b = true then te σ2 H3 fun y H4 => ∃ acc, H4 d = some (.lst acc) ∧ acc.length < sizeLine ∧ Nx (upd H4 d (.lst (acc ++ [y]))) else Nx H3)
/-- one turn of a comprehension: what it may leave is some or none -/
def Turn (g : TG) (tt : TT) (te : TE) (vs : List Nat) (σ : L2.St) (x : V) (H : Hp) (N : Option V → Hp → Prop) : Prop :=
  g x (wipe σ vs) H fun σ2 H2 => wipe σ2 vs = wipe σ vs ∧ tt σ2 H2 fun b H3 => if b = true then te σ2 H3 fun y H4 => N (some y) H4 else N none H3
/-- the readings are monotone in what is wanted: asked of a turn by its user, as a function of N -/
theorem lcG (n : Nat) (hn : n ≤ 100000) (hd : H d = none) (P : Nat → List V → Hp → Prop) (h0 : P 0 [] H) (mono : ∀ i acc A B, Same A B → P i acc A → P i acc B)
    (go : ∀ i H', i < n → Same H H' → J.go i H') (stop : ∀ H', Same H H' → J.stop n H')
    (turn : ∀ i acc H', i < n → Same H H' → P i acc (del H' d) → H' d = some (.lst acc) → ∀ x H2, J.yld i H' x H2 → ∀ N : Option V → Hp → Prop, (∀ o H3, Same H' H3 → P (i + 1) (acc ++ o.toList) (del H3 d) → N o H3) →
      g x (wipe σ vs) H2 fun σ2 H3 => wipe σ2 vs = wipe σ vs ∧ tt σ2 H3 fun b H4 => if b = true then te σ2 H4 fun y H5 => N (some y) H5 else N none H4)
    (fin : ∀ acc H', Same H H' → H' d = some (.lst acc) → P n acc (del H' d) → Q H') : LcW J g tt te vs σ H d Q := by
  let Iv : Nat → Hp → Prop := fun i H' => ∃ acc, Same H H' ∧ H' d = some (.lst acc) ∧ acc.length ≤ i ∧ P i acc (del H' d)
  refine ⟨fun i m H' => m = n - i ∧ i ≤ n ∧ Iv i H', ⟨n, rfl, Nat.zero_le _, [], same_new hd, upd_same, Nat.le_refl _, ?_⟩, ?_⟩
  · rw [del_upd]
    exact mono _ _ _ _ (same_del (Same.refl H) hd) h0
  rintro i m H' ⟨rfl, hi, acc, s, e, l, p⟩
  by_cases c : i < n
  · refine .inr ⟨go i H' c s, Iv (i + 1), fun H2 q => ⟨n - (i + 1), by omega, rfl, c, q⟩, fun x H2 y => ?_⟩
    have q := turn i acc H' c s p e x H2 y (fun o H3 => match o with
      | some v => ∃ acc, H3 d = some (.lst acc) ∧ acc.length < sizeLine ∧ Iv (i + 1) (upd H3 d (.lst (acc ++ [v])))
      | none => Iv (i + 1) H3) (fun o H3 s3 p3 => by
      cases o with
      | none => exact ⟨acc, s.trans s3, s3 _ _ e, by omega, by simpa using p3⟩
      | some v =>
        refine ⟨acc, s3 _ _ e, sz' (by omega), acc ++ [v], same_own (s.trans s3) hd, upd_same, by rw [List.length_append, List.length_singleton]; omega, ?_⟩
        rw [del_upd]
        exact p3)
    exact q
  · obtain rfl : i = n := by omega
    exact .inl ⟨stop H' s, fin acc H' s e p⟩
variable {K : PySem.W.Frag} {β : Type}
theorem range_filterMap (ys : List β) (f : β → Option V) : ∀ n, (List.range n).filterMap (fun i => ys[i]?.bind f) = (ys.take n).filterMap f
  | 0 => rfl
  | n + 1 => by
    rw [List.range_succ, List.filterMap_append, range_filterMap ys f n, List.take_add_one, List.filterMap_append]
    congr 1
    rw [List.filterMap_cons]
    cases e : ys[n]? with
    | none => rfl
    | some y =>
      rw [Option.toList_some, List.filterMap_cons, Option.bind_some]
      cases f y <;> rfl
/-- over a list, the items told by ys, each turn giving f y -/
theorem lcL {a : Addr} {te' : TE} {Qv : VK} (ys : List β) (enc : β → V) (hx : SqL K H a (ys.map enc)) (f : β → Option V) (hn : ys.length ≤ 100000)
    (turn : ∀ y ∈ ys, ∀ H', Same H H' → ∀ N : Option V → Hp → Prop, (∀ H3, Same H' H3 → N (f y) H3) →
      g (enc y) (wipe σ vs) H' fun σ2 H3 => wipe σ2 vs = wipe σ vs ∧ tt σ2 H3 fun b H4 => if b = true then te σ2 H4 fun v H5 => N (some v) H5 else N none H4)
    (fin : ∀ d H', H d = none → Same H H' → H' d = some (.lst (ys.filterMap f)) → Qv (.ref d) H') :
    ∃ a', V.ref a = .ref a' ∧ (∃ xs, SqL K H a' xs) ∧ ∀ d, H d = none → LcW (Itl K a') g tt te vs σ H d (Qv (.ref d)) := by
  refine ⟨a, rfl, ⟨_, hx⟩, fun d hd => lcG ys.length hn hd (fun i acc _ => acc = (ys.take i).filterMap f) rfl (fun _ _ _ _ _ h => h) (fun i H' hi s => ⟨ys.map enc, _, s.seq hx, by rw [List.getElem?_map, List.getElem?_eq_getElem hi]; rfl⟩)
    (fun H' s => ⟨ys.map enc, s.seq hx, by simp⟩) (fun i acc H' hi s p e x H2 y N k => ?_) fun acc H' s e p => ?_⟩
  · obtain ⟨rfl, y⟩ := y
    have e1 : ys[i]? = some ys[i] := List.getElem?_eq_getElem hi
    have e2 := y (ys.map enc) (s.seq hx)
    rw [List.getElem?_map, e1] at e2
    cases e2
    refine turn ys[i] (List.getElem_mem hi) _ s N fun H3 s3 => k _ H3 s3 ?_
    rw [p, take_snoc e1, List.filterMap_append, List.filterMap_cons]
    cases f ys[i] <;> rfl
  · subst p
    refine fin d H' hd s ?_
    rw [e, List.take_of_length_le (Nat.le_refl _)]
/-- the same, where what is made is told by a relation: each item kept -/
theorem lcLR {a : Addr} {Qv : VK} (ys : List β) (enc : β → V) (hx : SqL K H a (ys.map enc)) (hn : ys.length ≤ 100000) (R : β → Addr → Hp → Prop) (mono : ∀ y q A B, Same A B → R y q A → R y q B)
    (turn : ∀ y ∈ ys, ∀ H', Same H H' → ∀ N : Option V → Hp → Prop, (∀ q H3, H' q = none → Same H' H3 → (∀ d, q ≠ d → H' d ≠ none → R y q (del H3 d)) → N (some (.ref q)) H3) →
      g (enc y) (wipe σ vs) H' fun σ2 H3 => wipe σ2 vs = wipe σ vs ∧ tt σ2 H3 fun b H4 => if b = true then te σ2 H4 fun v H5 => N (some v) H5 else N none H4)
    (fin : ∀ d (zs : List (Addr × β)) H', H d = none → Same H H' → zs.map (·.2) = ys → H' d = some (.lst (zs.map fun z => .ref z.1)) → (∀ z ∈ zs, H z.1 = none ∧ R z.2 z.1 H') → Qv (.ref d) H') :
    ∃ a', V.ref a = .ref a' ∧ (∃ xs, SqL K H a' xs) ∧ ∀ d, H d = none → LcW (Itl K a') g tt te vs σ H d (Qv (.ref d)) := by
  refine ⟨a, rfl, ⟨_, hx⟩, fun d hd => lcG ys.length hn hd (fun i acc A => ∃ zs : List (Addr × β), zs.map (·.2) = ys.take i ∧ acc = zs.map (fun z => .ref z.1) ∧ ∀ z ∈ zs, H z.1 = none ∧ R z.2 z.1 A) ⟨[], rfl, rfl, fun z h => absurd h List.not_mem_nil⟩
    (fun i acc A B s h => ?_) (fun i H' hi s => ⟨ys.map enc, _, s.seq hx, by rw [List.getElem?_map, List.getElem?_eq_getElem hi]; rfl⟩)
    (fun H' s => ⟨ys.map enc, s.seq hx, by simp⟩) (fun i acc H' hi s p e x H2 y N k => ?_) fun acc H' s e p => ?_⟩
  · obtain ⟨zs, h1, h2, h3⟩ := h
    exact ⟨zs, h1, h2, fun z hz => ⟨(h3 z hz).1, mono _ _ _ _ s (h3 z hz).2⟩⟩
  · obtain ⟨rfl, y⟩ := y
    have e1 : ys[i]? = some ys[i] := List.getElem?_eq_getElem hi
    have e2 := y (ys.map enc) (s.seq hx)
    rw [List.getElem?_map, e1] at e2
    cases e2
    obtain ⟨zs, h1, h2, h3⟩ := p
    refine turn ys[i] (List.getElem_mem hi) _ s N fun q H3 nq s3 r => k (some (.ref q)) H3 s3 ⟨zs ++ [(q, ys[i])], by rw [List.map_append, h1, take_snoc e1]; rfl, by rw [h2, List.map_append]; rfl, fun z hz => ?_⟩
    rcases List.mem_append.mp hz with hz | hz
    · exact ⟨(h3 z hz).1, mono _ _ _ _ (del_mono s3) (h3 z hz).2⟩
    · rw [List.mem_singleton] at hz
      subst hz
      exact ⟨s.free nq, r d (ne_of_none e nq).symm (by rw [e]; exact fun z => nomatch z)⟩
  · obtain ⟨zs, h1, h2, h3⟩ := p
    subst h2
    rw [List.take_of_length_le (Nat.le_refl _)] at h1
    exact fin d zs H' hd s h1 e fun z hz => ⟨(h3 z hz).1, mono _ _ _ _ del_sub (h3 z hz).2⟩
end
end RB
set_option maxHeartbeats 4000000
/-! What each def promises. -/
namespace RB
open PySem PySem.Spec PyProof.Rows L2
/-! ### what stands in the heap -/
def tieF (t : Tr) : List (Str × V) := [("number", .int t.num), ("tail", .str t.tl), ("head", .str t.hd), ("load", .int t.load), ("is_oneway", .bl t.ow)]
def TieAt (K : PySem.W.Frag) (H : Hp) (p : Addr) (t : Tr) : Prop := ∃ dx, H p = some (.ins (He.ga K "Tie") dx (tieF t))
def webF (lc ld : Addr) (g : Int) : List (Str × V) := [("crowd", .ref lc), ("tied", .ref ld), ("last_given", .int g)]
abbrev AT := Addr × Tr
structure WebAt (K : PySem.W.Frag) (H : Hp) (p lc ld : Addr) (w : Wr) : Prop where
  ob : ∃ dx, H p = some (.ins (He.ga K "Web") dx (webF lc ld w.given))
  cr : H lc = some (.lst (w.names.map V.str))
  td : ∃ ys : List AT, ys.map (·.2) = w.ties ∧ H ld = some (.dK (ys.map fun y => (Sum.inl y.2.num, V.ref y.1))) ∧ ∀ y ∈ ys, TieAt K H y.1 y.2
/-- a list of ties -/
def TiesL (K : PySem.W.Frag) (H : Hp) (a : Addr) (ts : List Tr) : Prop := ∃ ys : List AT, ys.map (·.2) = ts ∧ H a = some (.lst (ys.map fun y => V.ref y.1)) ∧ ∀ y ∈ ys, TieAt K H y.1 y.2
/-- a list of pairs of a number and a name -/
def PrL (H : Hp) (a : Addr) (ps : List (Int × Str)) : Prop := ∃ ys : List (Addr × Int × Str), ys.map (·.2) = ps ∧ H a = some (.lst (ys.map fun y => V.ref y.1)) ∧ ∀ y ∈ ys, H y.1 = some (.tup [.int y.2.1, .str y.2.2])
/-- who is beside whom, as a dict of lists of pairs -/
def Bes (H : Hp) (d : Addr) (B : Adj Str) : Prop := ∃ ys : List (Addr × Str), H d = some (.dK (ys.map fun y => (Sum.inr y.2, V.ref y.1))) ∧ (ys.map (·.2)).Nodup ∧ (∀ y ∈ ys, PrL H y.1 (B y.2)) ∧ ∀ x, x ∉ ys.map (·.2) → B x = []
def tupO : Option (Int × Str) → List V
  | none => [.non, .non]
  | some (n, h) => [.int n, .str h]
/-- who is come to, as a dict of pairs -/
def CameAt (H : Hp) (d : Addr) (F : Came Str) : Prop := ∃ ys : List (Addr × Str × Option (Int × Str)), ys.map (·.2) = F ∧ H d = some (.dK (ys.map fun y => (Sum.inr y.2.1, V.ref y.1))) ∧ ∀ y ∈ ys, H y.1 = some (.tup (tupO y.2.2))
/-- a list of lists of names -/
def LL (H : Hp) (a : Addr) (xss : List (List Str)) : Prop := ∃ ys : List (Addr × List Str), ys.map (·.2) = xss ∧ H a = some (.lst (ys.map fun y => V.ref y.1)) ∧ ∀ y ∈ ys, H y.1 = some (.lst (y.2.map V.str))
/-- a dict from names to names -/
def DSS (H : Hp) (d : Addr) (names : List Str) (r : Str → Str) : Prop := H d = some (.dK (names.map fun x => (Sum.inr x, V.str (r x))))
/-- two sides -/
def SidesAt (K : PySem.W.Frag) (H : Hp) (p : Addr) (w : Wr) (c : Str → Bool) : Prop := ∃ (dx d : Addr) (L : List (Str × Int)), H p = some (.ins (He.ga K "Sides") dx [("sides", .ref d)]) ∧ H d = some (.dK (L.map fun e => (Sum.inr e.1, V.int e.2))) ∧
  (L.map (·.1)).Nodup ∧ (∀ x, x ∈ L.map (·.1) ↔ x ∈ w.names) ∧ ∀ e ∈ L, e.2 = colF w.ties w.names c e.1
def OddAt (K : PySem.W.Frag) (H : Hp) (p : Addr) : Prop := ∃ (dx : Addr) (fs : List (Str × V)), H p = some (.ins (He.ga K "OddRing") dx fs)
def WayAt (K : PySem.W.Frag) (H : Hp) (p l : Addr) (ns : List Int) : Prop := ∃ dx, H p = some (.ins (He.ga K "Way") dx [("numbers", .ref l)]) ∧ H l = some (.lst (ns.map V.int))
def BorderAt (K : PySem.W.Frag) (H : Hp) (p l : Addr) (xs : List Str) : Prop := ∃ dx, H p = some (.ins (He.ga K "Border") dx [("names", .ref l)]) ∧ H l = some (.lst (xs.map V.str))
/-- what together tells -/
def TogAt (K : PySem.W.Frag) (H : Hp) (p : Addr) (w : Wr) (a b : Str) : Prop := ∃ l, if b ∈ ckeys (cameF (adjF w.ties) a) then WayAt K H p l (wayF (cameF (adjF w.ties) a) b) else BorderAt K H p l (w.names.filter fun x => decide (x ∈ ckeys (cameF (adjF w.ties) a)))
/-! ### texts -/
def letters : Str := "abcdefghijklmnopqrstuvwxyz"
def figures : Str := "0123456789"
structure okName (x : Str) : Prop where
  pos : 1 ≤ x.length
  len : x.length ≤ 12
  sg : ∀ c ∈ x.cps.toList, c ∈ letters.cps.toList
def numT (n : Int) : Str := toString n
def tieT (t : Tr) : Str := Txt.join " " [if t.ow then "way" else "tie", numT t.num, t.tl, t.hd, numT t.load]
inductive Ln where
  | pt (n : Str) | ti (t : Tr) | gv (n : Int)
def lnT : Ln → Str
  | .pt n => "point " ++ n
  | .ti t => tieT t
  | .gv n => "given " ++ numT n
def linesF (w : Wr) : List Ln := w.names.map Ln.pt ++ w.ties.map Ln.ti ++ [Ln.gv w.given]
def lnW (w : Wr) : Ln → Wr
  | .pt n => w.putPoint n
  | .ti t => { w with ties := w.ties ++ [t], given := t.num }
  | .gv n => { w with given := n }
/-- a line that can stand where the web is so -/
def LnOk (w : Wr) : Ln → Prop
  | .pt n => w.ties = [] ∧ okName n ∧ n ∉ w.names ∧ w.names.length < 16
  | .ti t => okName t.tl ∧ okName t.hd ∧ t.tl ∈ w.names ∧ t.hd ∈ w.names ∧ t.tl ≠ t.hd ∧ w.given < t.num ∧ t.num ≤ 10 ^ 60 ∧ 0 ≤ t.load ∧ t.load ≤ 10 ^ 60 ∧ w.ties.length < 48
  | .gv n => w.given ≤ n ∧ n ≤ 10 ^ 60
def lnLast : Ln → Bool
  | .gv _ => true
  | _ => false
/-- the web's part that its texts lean on -/
structure TxtOk (w : Wr) : Prop where
  ok : WOk w
  nm : ∀ x ∈ w.names, okName x
  gv : w.given ≤ 1000
/-! ### the law's own model -/
def tupT (t : Tr) : List V := [.str t.tl, .str t.hd, .int t.load, .bl t.ow]
structure ModAt (H : Hp) (m ln lt : Addr) (w : Wr) : Prop where
  ob : H m = some (.dK [(Sum.inr "names", .ref ln), (Sum.inr "ties", .ref lt), (Sum.inr "given", .int w.given)])
  nm : H ln = some (.lst (w.names.map V.str))
  td : ∃ ys : List AT, ys.map (·.2) = w.ties ∧ H lt = some (.dK (ys.map fun y => (Sum.inl y.2.num, V.ref y.1))) ∧ ∀ y ∈ ys, H y.1 = some (.tup (tupT y.2))
/-- the web and the law's model, told alike -/
structure Wd (K : PySem.W.Frag) (H : Hp) (p lc ld m ln lt : Addr) (w : Wr) : Prop where
  web : WebAt K H p lc ld w
  mod : ModAt H m ln lt w
  n1 : lc ≠ ln
  n2 : ld ≠ m
  n3 : ld ≠ lt
  n4 : m ≠ lt
/-- points and their ties told the same -/
def PoolOk (ps : List Str) : Prop := ps.length = 22 ∧ ps.Nodup ∧ ∀ x ∈ ps, okName x
/-- what is held: pairs of a thing told and its text -/
def HeldAt (K : PySem.W.Frag) (H : Hp) (S : List Addr) (a : Addr) (xs : List V) : Prop := H a = some (.lst xs) ∧ ∀ v ∈ xs, ∃ (q l : Addr) (d : PyData), v = .ref q ∧ q ∉ S ∧ H q = some (.tup [.ref l, .str d.shown]) ∧
  d.showable = true ∧ d.hasDict = false ∧ d.shown.length ≤ sizeLine ∧ d.depth ≤ 40 ∧ ∀ H', Keep S H H' → Dp K H' (.ref l) d
section

/-! ### words -/
def sp_is_whole (K : PySem.W.Frag) : Sp := fun vs H Q _ => ∃ i, vs = [.int i] ∧ Q (.bl true) H
def sp_is_among (K : PySem.W.Frag) : Sp := fun vs H Q _ => ∃ i a b, vs = [.int i, .int a, .int b] ∧ Q (.bl (decide (a ≤ i) && decide (i ≤ b))) H
def sp_are_signs (K : PySem.W.Frag) : Sp := fun vs H Q _ => ∃ x y, vs = [.str x, .str y] ∧ x.length ≤ 1000 ∧ ∀ H', Same H H' → Q (.bl (x.cps.toList.all fun c => decide (c ∈ y.cps.toList))) H'
def sp_is_name (K : PySem.W.Frag) : Sp := fun vs H Q _ => ∃ x, vs = [.str x] ∧ okName x ∧ ∀ H', Same H H' → Q (.bl true) H'
def sp_number_text (K : PySem.W.Frag) : Sp := fun vs H Q _ => ∃ i, vs = [.int i] ∧ 0 ≤ i ∧ i ≤ 10 ^ 60 ∧ Q (.str (numT i)) H
def sp_number_of (K : PySem.W.Frag) : Sp := fun vs H Q _ => ∃ n : Int, vs = [.str (numT n)] ∧ 0 ≤ n ∧ n ≤ 10 ^ 60 ∧ ∀ H', Same H H' → Q (.int n) H'
def sp_words_of (K : PySem.W.Frag) : Sp := fun vs H Q _ => ∃ ws : List Str, vs = [.str (Txt.join " " ws)] ∧ ws ≠ [] ∧ ws.length ≤ 10 ∧ (∀ x ∈ ws, 1 ≤ x.length ∧ x.length ≤ 100 ∧ 32 ∉ x.cps.toList) ∧ ∀ p H', H p = none → Same H H' → H' p = some (.lst (ws.map V.str)) → Q (.ref p) H'
/-! ### pieces -/
def spInitL (K : PySem.W.Frag) (C f : Str) : Sp := fun vs H Q _ => ∃ (p dx l : Addr) (xs : List V), vs = [.ref p, .ref l] ∧ H p = some (.ins (He.ga K C) dx []) ∧ H l = some (.lst xs) ∧ ∀ q H', H q = none → Keep [p] H H' → H' p = some (.ins (He.ga K C) dx [(f, .ref q)]) → H' q = some (.lst xs) → Q .non H'
def sp_Way_init (K : PySem.W.Frag) : Sp := spInitL K "Way" "numbers"
def sp_Border_init (K : PySem.W.Frag) : Sp := spInitL K "Border" "names"
def sp_OddRing_init (K : PySem.W.Frag) : Sp := spInitL K "OddRing" "numbers"
def sp_Sides_init (K : PySem.W.Frag) : Sp := fun vs H Q _ => ∃ (p dx l : Addr) (kvs : List (Key × V)), vs = [.ref p, .ref l] ∧ H p = some (.ins (He.ga K "Sides") dx []) ∧ H l = some (.dK kvs) ∧ ∀ q H', H q = none → Keep [p] H H' → H' p = some (.ins (He.ga K "Sides") dx [("sides", .ref q)]) → H' q = some (.dK kvs) → Q .non H'
def sp_ends_by (K : PySem.W.Frag) : Sp := fun vs H Q _ => ∃ (a : Addr) (ts : List Tr), vs = [.ref a] ∧ TiesL K H a ts ∧ ts.length ≤ 48 ∧ (∀ t ∈ ts, t.tl ≠ t.hd) ∧ ∀ d H', H d = none → Same H H' → Bes H' d (adjF ts) → Q (.ref d) H'
def sp_came_from (K : PySem.W.Frag) : Sp := fun vs H Q _ => ∃ (d : Addr) (B : Adj Str) (s : Str) (names : List Str), vs = [.ref d, .str s] ∧ Bes H d B ∧ Within B names ∧ s ∈ names ∧ ∀ q H', H q = none → Same H H' → CameAt H' q (cameF B s) → Q (.ref q) H'
def sp_way_back (K : PySem.W.Frag) : Sp := fun vs H Q _ => ∃ (d : Addr) (F : Came Str) (B : Adj Str) (s g : Str), vs = [.ref d, .str g] ∧ CameAt H d F ∧ CInv B s F ∧ F.length ≤ 16 ∧ g ∈ ckeys F ∧ ∀ q H', H q = none → Same H H' → H' q = some (.lst ((wayF F g).map V.int)) → Q (.ref q) H'
def sp_in_order (K : PySem.W.Frag) : Sp := fun vs H Q _ => ∃ (p lc ld d : Addr) (w : Wr) (F : Came Str), vs = [.ref p, .ref d] ∧ WebAt K H p lc ld w ∧ w.names.length ≤ 16 ∧ CameAt H d F ∧ ∀ q H', H q = none → Same H H' → H' q = some (.lst ((w.names.filter fun x => decide (x ∈ ckeys F)).map V.str)) → Q (.ref q) H'
def sp_pieces (K : PySem.W.Frag) : Sp := fun vs H Q _ => ∃ (p lc ld : Addr) (w : Wr), vs = [.ref p] ∧ WebAt K H p lc ld w ∧ WOk w ∧ ∀ q H', H q = none → Same H H' → LL H' q (pcsF w.ties w.names) → (∀ ys : List (Addr × List Str), H' q = some (.lst (ys.map fun y => V.ref y.1)) → ∀ y ∈ ys, H y.1 = none) → Q (.ref q) H'
def sp_together (K : PySem.W.Frag) : Sp := fun vs H Q _ => ∃ (p lc ld : Addr) (w : Wr) (a b : Str), vs = [.ref p, .str a, .str b] ∧ WebAt K H p lc ld w ∧ WOk w ∧ a ∈ w.names ∧ b ∈ w.names ∧ ∀ q H', Same H H' → TogAt K H' q w a b → Q (.ref q) H'
def sp_trees_of (K : PySem.W.Frag) : Sp := fun vs H Q _ => ∃ (p lc ld a : Addr) (w : Wr) (ts : List Tr), vs = [.ref p, .ref a] ∧ WebAt K H p lc ld w ∧ WOk w ∧ TiesL K H a ts ∧ ts.length ≤ 48 ∧ (∀ t ∈ ts, t.tl ∈ w.names ∧ t.hd ∈ w.names) ∧ ∀ q H', H q = none → Same H H' → H' q = some (.lst ((forestF ts).map fun t => V.int t.num)) → Q (.ref q) H'
def sp_forest (K : PySem.W.Frag) : Sp := fun vs H Q _ => ∃ (p lc ld : Addr) (w : Wr), vs = [.ref p] ∧ WebAt K H p lc ld w ∧ WOk w ∧ ∀ q H', H q = none → Same H H' → H' q = some (.lst ((forestF w.ties).map fun t => V.int t.num)) → Q (.ref q) H'
def sp_need_forest (K : PySem.W.Frag) : Sp := fun vs H Q _ => ∃ (p lc ld l : Addr) (w : Wr), vs = [.ref p, .ref l] ∧ WebAt K H p lc ld w ∧ WOk w ∧ H l = some (.lst ((forestF w.ties).map fun t => V.int t.num)) ∧ ∀ q H', H q = none → Same H H' → TiesL K H' q (forestF w.ties) → Q (.ref q) H'
def sp_ring_by (K : PySem.W.Frag) : Sp := fun vs H Q _ => ∃ (p lc ld l : Addr) (w : Wr) (t : Tr), vs = [.ref p, .ref l, .int t.num] ∧ WebAt K H p lc ld w ∧ WOk w ∧ H l = some (.lst ((forestF w.ties).map fun t => V.int t.num)) ∧ t ∈ w.ties ∧ t.num ∉ (forestF w.ties).map (·.num) ∧
  ∀ q H', H q = none → Same H H' → H' q = some (.lst ((t.num :: wayF (cameF (adjF (forestF w.ties)) t.hd) t.tl).map V.int)) → Q (.ref q) H'
def sp_sides (K : PySem.W.Frag) : Sp := fun vs H Q _ => ∃ (p lc ld : Addr) (w : Wr) (c : Str → Bool), vs = [.ref p] ∧ WebAt K H p lc ld w ∧ WOk w ∧ Proper (forestF w.ties) c ∧ ∀ q H', Same H H' → (if properB w.ties c then SidesAt K H' q w c else OddAt K H' q) → Q (.ref q) H'
/-! ### webs -/
def sp_need_load (K : PySem.W.Frag) : Sp := fun vs H Q _ => ∃ i : Int, vs = [.int i] ∧ 0 ≤ i ∧ i ≤ 10 ^ 60 ∧ Q .non H
def sp_Tie_init (K : PySem.W.Frag) : Sp := fun vs H Q _ => ∃ (p dx : Addr) (t : Tr), vs = [.ref p, .int t.num, .str t.tl, .str t.hd, .int t.load, .bl t.ow] ∧ H p = some (.ins (He.ga K "Tie") dx []) ∧ ∀ H', Keep [p] H H' → H' p = some (.ins (He.ga K "Tie") dx (tieF t)) → Q .non H'
def sp_moved_tie (K : PySem.W.Frag) : Sp := fun vs H Q _ => ∃ (p : Addr) (t : Tr) (a b : Str), vs = [.ref p, .str a, .str b] ∧ TieAt K H p t ∧ ∀ q H', H q = none → Same H H' → TieAt K H' q (mv a b t) → Q (.ref q) H'
def sp_Web_init (K : PySem.W.Frag) : Sp := fun vs H Q _ => ∃ (p dx : Addr), vs = [.ref p] ∧ H p = some (.ins (He.ga K "Web") dx []) ∧ ∀ lc ld H', H lc = none → H ld = none → Keep [p] H H' → WebAt K H' p lc ld ⟨[], [], 0⟩ → Q .non H'
def sp_Web_points (K : PySem.W.Frag) : Sp := fun vs H Q _ => ∃ (p lc ld : Addr) (w : Wr), vs = [.ref p] ∧ WebAt K H p lc ld w ∧ ∀ q H', H q = none → Same H H' → H' q = some (.lst (w.names.map V.str)) → Q (.ref q) H'
def sp_Web_ties (K : PySem.W.Frag) : Sp := fun vs H Q _ => ∃ (p lc ld : Addr) (w : Wr), vs = [.ref p] ∧ WebAt K H p lc ld w ∧ w.ties.length ≤ 48 ∧ w.ties.Pairwise (fun a b => a.num < b.num) ∧ ∀ q H', H q = none → Same H H' → TiesL K H' q w.ties → Q (.ref q) H'
def sp_Web_given (K : PySem.W.Frag) : Sp := fun vs H Q _ => ∃ (p lc ld : Addr) (w : Wr), vs = [.ref p] ∧ WebAt K H p lc ld w ∧ Q (.int w.given) H
def sp_Web_need_point (K : PySem.W.Frag) : Sp := fun vs H Q _ => ∃ (p lc ld : Addr) (w : Wr) (n : Str), vs = [.ref p, .str n] ∧ WebAt K H p lc ld w ∧ n ∈ w.names ∧ Q .non H
def sp_Web_need_new (K : PySem.W.Frag) : Sp := fun vs H Q _ => ∃ (p lc ld : Addr) (w : Wr) (n : Str), vs = [.ref p, .str n] ∧ WebAt K H p lc ld w ∧ okName n ∧ n ∉ w.names ∧ ∀ H', Same H H' → Q .non H'
def sp_Web_need_room (K : PySem.W.Frag) : Sp := fun vs H Q _ => ∃ (p lc ld : Addr) (w : Wr), vs = [.ref p] ∧ WebAt K H p lc ld w ∧ w.names.length < 16 ∧ Q .non H
def sp_Web_put_point (K : PySem.W.Frag) : Sp := fun vs H Q _ => ∃ (p lc ld : Addr) (w : Wr) (n : Str), vs = [.ref p, .str n] ∧ WebAt K H p lc ld w ∧ okName n ∧ n ∉ w.names ∧ w.names.length < 16 ∧ ∀ H', Keep [lc] H H' → WebAt K H' p lc ld (w.putPoint n) → Q .non H'
def sp_Web_drop_point (K : PySem.W.Frag) : Sp := fun vs H Q _ => ∃ (p lc ld : Addr) (w : Wr) (n : Str), vs = [.ref p, .str n] ∧ WebAt K H p lc ld w ∧ WOk w ∧ n ∈ w.names ∧ (∀ t ∈ w.ties, t.tl ≠ n ∧ t.hd ≠ n) ∧ ∀ H', Keep [lc] H H' → WebAt K H' p lc ld (w.dropPoint n) → Q .non H'
def sp_Web_move_all (K : PySem.W.Frag) : Sp := fun vs H Q _ => ∃ (p lc ld : Addr) (w : Wr) (a b : Str), vs = [.ref p, .str a, .str b] ∧ WebAt K H p lc ld w ∧ w.ties.length ≤ 48 ∧ w.ties.Pairwise (fun a b => a.num < b.num) ∧ ∀ H', Keep [ld] H H' → WebAt K H' p lc ld { w with ties := w.ties.map (mv a b) } → Q .non H'
def sp_Web_rename (K : PySem.W.Frag) : Sp := fun vs H Q _ => ∃ (p lc ld : Addr) (w : Wr) (a b : Str), vs = [.ref p, .str a, .str b] ∧ WebAt K H p lc ld w ∧ WOk w ∧ a ∈ w.names ∧ okName b ∧ b ∉ w.names ∧ ∀ H', Keep [lc, ld] H H' → WebAt K H' p lc ld (w.rename a b) → Q .non H'
def sp_Web_put_numbered (K : PySem.W.Frag) : Sp := fun vs H Q _ => ∃ (p lc ld : Addr) (w : Wr) (t : Tr), vs = [.ref p, .int t.num, .str t.tl, .str t.hd, .int t.load, .bl t.ow] ∧ WebAt K H p lc ld w ∧ (∀ u ∈ w.ties, u.num ≠ t.num) ∧ t.tl ∈ w.names ∧ t.hd ∈ w.names ∧ t.tl ≠ t.hd ∧ 0 ≤ t.load ∧ t.load ≤ 10 ^ 60 ∧ w.ties.length < 48 ∧
  ∀ H', Keep [p, ld] H H' → WebAt K H' p lc ld { w with ties := w.ties ++ [t], given := t.num } → Q (.int t.num) H'
def sp_Web_put_tie (K : PySem.W.Frag) : Sp := fun vs H Q _ => ∃ (p lc ld : Addr) (w : Wr) (a b : Str) (l : Int) (o : Bool), vs = [.ref p, .str a, .str b, .int l, .bl o] ∧ WebAt K H p lc ld w ∧ WOk w ∧ a ∈ w.names ∧ b ∈ w.names ∧ a ≠ b ∧ 0 ≤ l ∧ l ≤ 10 ^ 60 ∧ w.ties.length < 48 ∧
  ∀ H', Keep [p, ld] H H' → WebAt K H' p lc ld (w.putTie a b l o) → Q (.int (w.given + 1)) H'
def sp_Web_tie_of (K : PySem.W.Frag) : Sp := fun vs H Q _ => ∃ (p lc ld : Addr) (w : Wr) (t : Tr), vs = [.ref p, .int t.num] ∧ WebAt K H p lc ld w ∧ w.ties.Pairwise (fun a b => a.num < b.num) ∧ t ∈ w.ties ∧ ∀ q, TieAt K H q t → Q (.ref q) H
def sp_Web_drop_tie (K : PySem.W.Frag) : Sp := fun vs H Q _ => ∃ (p lc ld : Addr) (w : Wr) (t : Tr), vs = [.ref p, .int t.num] ∧ WebAt K H p lc ld w ∧ w.ties.Pairwise (fun a b => a.num < b.num) ∧ t ∈ w.ties ∧ ∀ H', Keep [ld] H H' → WebAt K H' p lc ld (w.dropTie t.num) → Q .non H'
def sp_Web_set_load (K : PySem.W.Frag) : Sp := fun vs H Q _ => ∃ (p lc ld : Addr) (w : Wr) (t : Tr) (l : Int), vs = [.ref p, .int t.num, .int l] ∧ WebAt K H p lc ld w ∧ w.ties.Pairwise (fun a b => a.num < b.num) ∧ w.ties.length ≤ 48 ∧ t ∈ w.ties ∧ 0 ≤ l ∧ l ≤ 10 ^ 60 ∧ ∀ H', Keep [ld] H H' → WebAt K H' p lc ld (w.setLoad t.num l) → Q .non H'
def sp_Web_join (K : PySem.W.Frag) : Sp := fun vs H Q _ => ∃ (p lc ld : Addr) (w : Wr) (a b : Str), vs = [.ref p, .str a, .str b] ∧ WebAt K H p lc ld w ∧ WOk w ∧ a ∈ w.names ∧ b ∈ w.names ∧ a ≠ b ∧ ∀ H', Keep [lc, ld] H H' → WebAt K H' p lc ld (w.join a b) → Q .non H'
def sp_Web_part (K : PySem.W.Frag) : Sp := fun vs H Q _ => ∃ (p lc ld l : Addr) (w : Wr) (a b : Str) (us : List Tr), vs = [.ref p, .str a, .str b, .ref l] ∧ WebAt K H p lc ld w ∧ WOk w ∧ a ∈ w.names ∧ okName b ∧ b ∉ w.names ∧ w.names.length < 16 ∧ l ≠ lc ∧ H l = some (.lst (us.map fun t => V.int t.num)) ∧ (us.map (·.num)).Nodup ∧ (∀ u ∈ us, u ∈ w.ties ∧ (u.tl = a ∨ u.hd = a)) ∧
  ∀ H', Keep [lc, ld] H H' → WebAt K H' p lc ld (w.part a b (us.map (·.num))) → Q .non H'
def sp_Web_give (K : PySem.W.Frag) : Sp := fun vs H Q _ => ∃ (p lc ld : Addr) (w : Wr) (n : Int), vs = [.ref p, .int n] ∧ WebAt K H p lc ld w ∧ ∀ H', Keep [p] H H' → WebAt K H' p lc ld { w with given := n } → Q .non H'
def sp_tie_line (K : PySem.W.Frag) : Sp := fun vs H Q _ => ∃ (p : Addr) (t : Tr), vs = [.ref p] ∧ TieAt K H p t ∧ 0 ≤ t.num ∧ t.num ≤ 10 ^ 60 ∧ 0 ≤ t.load ∧ t.load ≤ 10 ^ 60 ∧ okName t.tl ∧ okName t.hd ∧ ∀ H', Same H H' → Q (.str (tieT t)) H'
def sp_web_lines (K : PySem.W.Frag) : Sp := fun vs H Q _ => ∃ (p lc ld : Addr) (w : Wr), vs = [.ref p] ∧ WebAt K H p lc ld w ∧ TxtOk w ∧ ∀ q H', H q = none → Same H H' → H' q = some (.lst ((linesF w).map fun l => V.str (lnT l))) → Q (.ref q) H'
def sp_need_line (K : PySem.W.Frag) : Sp := fun vs H Q _ => vs = [.bl true] ∧ Q .non H
def sp_put_tie_line (K : PySem.W.Frag) : Sp := fun vs H Q _ => ∃ (p lc ld l : Addr) (w : Wr) (t : Tr), vs = [.ref p, .ref l] ∧ WebAt K H p lc ld w ∧ WOk w ∧ LnOk w (.ti t) ∧ H l = some (.lst [.str (if t.ow then "way" else "tie"), .str (numT t.num), .str t.tl, .str t.hd, .str (numT t.load)]) ∧
  ∀ H', Keep [p, ld] H H' → WebAt K H' p lc ld (lnW w (.ti t)) → Q .non H'
def sp_put_line (K : PySem.W.Frag) : Sp := fun vs H Q _ => ∃ (p lc ld : Addr) (w : Wr) (l : Ln), vs = [.ref p, .str (lnT l)] ∧ WebAt K H p lc ld w ∧ WOk w ∧ LnOk w l ∧ ∀ H', Keep [p, lc, ld] H H' → WebAt K H' p lc ld (lnW w l) → Q (.bl (lnLast l)) H'
def sp_web_of (K : PySem.W.Frag) : Sp := fun vs H Q _ => ∃ (l : Addr) (w : Wr), vs = [.ref l] ∧ H l = some (.lst ((linesF w).map fun l => V.str (lnT l))) ∧ TxtOk w ∧ ∀ p lc ld H', Same H H' → WebAt K H' p lc ld w → Q (.ref p) H'
/-! ### the law's own defs -/
def sp_law_draw (K : PySem.W.Frag) : Sp := fun vs H Q _ => ∃ c k j : Int, vs = [.int c, .int k, .int j] ∧ 0 ≤ k ∧ k ≤ 1000 ∧ 0 ≤ j ∧ j ≤ 1000 ∧ ∀ n : Int, 0 ≤ n → n < 2147483648 → Q (.int n) H
def sp_law_load (K : PySem.W.Frag) : Sp := fun vs H Q _ => ∃ c k j : Int, vs = [.int c, .int k, .int j] ∧ 0 ≤ k ∧ k ≤ 1000 ∧ 0 ≤ j ∧ j ≤ 1000 ∧ ∀ (n : Int) H', 0 ≤ n → n ≤ 10 ^ 60 → Same H H' → Q (.int n) H'
def sp_law_pool (K : PySem.W.Frag) : Sp := fun vs H Q _ => ∃ c : Int, vs = [.int c] ∧ ∀ q ps H', H q = none → Same H H' → H' q = some (.lst (ps.map V.str)) → PoolOk ps → Q (.ref q) H'
def sp_law_whole (K : PySem.W.Frag) : Sp := fun vs H Q _ => ∃ i : Int, vs = [.int i, .int i] ∧ Q (.bl true) H
def sp_law_put_tie (K : PySem.W.Frag) : Sp := fun vs H Q _ => ∃ (p lc ld m ln lt : Addr) (w : Wr) (c k : Int), vs = [.ref p, .ref m, .int c, .int k] ∧ 0 ≤ k ∧ k ≤ 1000 ∧ Wd K H p lc ld m ln lt w ∧ WOk w ∧ 2 ≤ w.names.length ∧ w.ties.length < 48 ∧
  ∀ w' H', Keep [p, lc, ld, m, ln, lt] H H' → Wd K H' p lc ld m ln lt w' → WOk w' → w'.names = w.names → w'.given = w.given + 1 → w'.ties.length = w.ties.length + 1 → Q (.bl true) H'
def sp_law_tie_changed (K : PySem.W.Frag) : Sp := fun vs H Q _ => ∃ (p lc ld m ln lt : Addr) (w : Wr) (c k : Int) (g : Bool), vs = [.ref p, .ref m, .int c, .int k, .bl g] ∧ 0 ≤ k ∧ k ≤ 1000 ∧ Wd K H p lc ld m ln lt w ∧ WOk w ∧ w.ties ≠ [] ∧
  ∀ w' H', Keep [p, lc, ld, m, ln, lt] H H' → Wd K H' p lc ld m ln lt w' → WOk w' → w'.names = w.names → w'.given = w.given → Q (.bl true) H'
def sp_law_moved (K : PySem.W.Frag) : Sp := fun vs H Q _ => ∃ (m ln lt l : Addr) (w : Wr) (a b : Str) (us : List Tr), vs = [.ref m, .str a, .str b, .ref l] ∧ ModAt H m ln lt w ∧ m ≠ lt ∧ w.ties.Pairwise (fun a b => a.num < b.num) ∧ w.ties.length ≤ 48 ∧ l ≠ ln ∧ H l = some (.lst (us.map fun t => V.int t.num)) ∧ (us.map (·.num)).Nodup ∧ (∀ u ∈ us, u ∈ w.ties) ∧
  ∀ H', Keep [lt] H H' → ModAt H' m ln lt { w with ties := w.ties.map fun t => if t.num ∈ us.map (·.num) then mv a b t else t } → Q .non H'
def sp_law_at (K : PySem.W.Frag) : Sp := fun vs H Q _ => ∃ (m ln lt : Addr) (w : Wr) (a : Str), vs = [.ref m, .str a] ∧ ModAt H m ln lt w ∧ w.ties.Pairwise (fun a b => a.num < b.num) ∧ w.ties.length ≤ 48 ∧ ∀ q H', H q = none → Same H H' → H' q = some (.lst ((w.ties.filter fun t => decide (t.tl = a ∨ t.hd = a)).map fun t => V.int t.num)) → Q (.ref q) H'
def sp_law_point_changed (K : PySem.W.Frag) : Sp := fun vs H Q _ => ∃ (p lc ld m ln lt fr : Addr) (w : Wr) (fs : List Str) (c k y : Int), vs = [.ref p, .ref m, .ref fr, .int c, .int k, .int y] ∧ 0 ≤ k ∧ k ≤ 1000 ∧ Wd K H p lc ld m ln lt w ∧ WOk w ∧ (∀ x ∈ w.names, okName x) ∧ 2 ≤ w.names.length ∧ fr ∉ [p, lc, ld, m, ln, lt] ∧ H fr = some (.lst (fs.map V.str)) ∧ fs ≠ [] ∧ (∀ x ∈ fs, okName x ∧ x ∉ w.names) ∧
  ∀ w' H', Keep [p, lc, ld, m, ln, lt] H H' → Wd K H' p lc ld m ln lt w' → WOk w' → (∀ x ∈ w'.names, x ∈ w.names ∨ x ∈ fs) → w'.given = w.given → Q (.bl true) H'
def sp_law_deed (K : PySem.W.Frag) : Sp := fun vs H Q _ => ∃ (p lc ld m ln lt po : Addr) (w : Wr) (ps : List Str) (c k : Int), vs = [.ref p, .ref m, .ref po, .int c, .int k] ∧ 0 ≤ k ∧ k ≤ 1000 ∧ Wd K H p lc ld m ln lt w ∧ WOk w ∧ H po = some (.lst (ps.map V.str)) ∧ PoolOk ps ∧ (∀ x ∈ w.names, x ∈ ps) ∧ po ∉ [p, lc, ld, m, ln, lt] ∧
  ∀ w' H', Keep [p, lc, ld, m, ln, lt] H H' → Wd K H' p lc ld m ln lt w' → WOk w' → (∀ x ∈ w'.names, x ∈ ps) → w'.given ≤ w.given + 1 → Q (.bl true) H'
def rowT (t : Tr) : List V := [.int t.num, .str t.tl, .str t.hd, .int t.load, .bl t.ow]
def sp_law_row (K : PySem.W.Frag) : Sp := fun vs H Q _ => ∃ (p : Addr) (t : Tr), vs = [.ref p] ∧ TieAt K H p t ∧ ∀ q H', H q = none → Same H H' → H' q = some (.tup (rowT t)) → Q (.ref q) H'
def RowsL (H : Hp) (a : Addr) (ts : List Tr) : Prop := ∃ ys : List AT, ys.map (·.2) = ts ∧ H a = some (.lst (ys.map fun y => V.ref y.1)) ∧ ∀ y ∈ ys, H y.1 = some (.tup (rowT y.2))
def sp_law_rows (K : PySem.W.Frag) : Sp := fun vs H Q _ => ∃ (m ln lt : Addr) (w : Wr), vs = [.ref m] ∧ ModAt H m ln lt w ∧ w.ties.Pairwise (fun a b => a.num < b.num) ∧ w.ties.length ≤ 48 ∧ ∀ q H', H q = none → Same H H' → RowsL H' q w.ties → Q (.ref q) H'
def sp_law_stands (K : PySem.W.Frag) : Sp := fun vs H Q _ => ∃ (p lc ld m ln lt : Addr) (w : Wr), vs = [.ref p, .ref m] ∧ Wd K H p lc ld m ln lt w ∧ WOk w ∧ (∀ x ∈ w.names, okName x) ∧ ∀ H', Same H H' → Q (.bl true) H'
def sp_law_none (K : PySem.W.Frag) : Sp := fun vs H Q _ => vs = [] ∧ ∀ m ln lt H', H m = none → H ln = none → H lt = none → Same H H' → ModAt H' m ln lt ⟨[], [], 0⟩ → m ≠ lt → Q (.ref m) H'
def sp_law_trees (K : PySem.W.Frag) : Sp := fun vs H Q _ => ∃ (m ln lt l : Addr) (w : Wr) (ts : List Tr), vs = [.ref m, .ref l] ∧ ModAt H m ln lt w ∧ WOk w ∧ H l = some (.lst (ts.map fun t => V.int t.num)) ∧ ts.length ≤ 48 ∧ (∀ t ∈ ts, t ∈ w.ties) ∧ ∀ q H', H q = none → Same H H' → DSS H' q w.names (rootsF ts) → Q (.ref q) H'
def sp_law_pieces (K : PySem.W.Frag) : Sp := fun vs H Q _ => ∃ (m ln lt : Addr) (w : Wr), vs = [.ref m] ∧ ModAt H m ln lt w ∧ WOk w ∧ (∀ x ∈ w.names, okName x) ∧ ∀ q H', H q = none → Same H H' → LL H' q (pcsF w.ties w.names) → Q (.ref q) H'
def sp_law_gone (K : PySem.W.Frag) : Sp := fun vs H Q _ => ∃ (m ln lt l : Addr) (w : Wr) (ns : List Int) (a b : Str), vs = [.ref m, .ref l, .str a] ∧ ModAt H m ln lt w ∧ WOk w ∧ H l = some (.lst (ns.map V.int)) ∧ ns.length ≤ 100 ∧ Go w.ties a ns b ∧ ∀ q xs H', H q = none → Same H H' → H' q = some (.lst ((xs ++ [b]).map V.str)) → Q (.ref q) H'
def sp_law_turned (K : PySem.W.Frag) : Sp := fun vs H Q _ => ∃ (l : Addr) (w : Wr) (n y : Int), vs = [.ref l, .int n, .int y] ∧ H l = some (.lst ((linesF w).map fun l => V.str (lnT l))) ∧ TxtOk w ∧ 0 ≤ n ∧ n < 2147483648 ∧
  ∀ q w' H', H q = none → Same H H' → TxtOk w' → w'.names = w.names → (if y = 0 then All2 Turned w.ties w'.ties else All2 Core w.ties w'.ties) → H' q = some (.lst ((linesF w').map fun l => V.str (lnT l))) → Q (.ref q) H'
def sp_law_rings_even (K : PySem.W.Frag) : Sp := fun vs H Q _ => ∃ (p lc ld m ln lt l : Addr) (w : Wr) (c : Str → Bool), vs = [.ref p, .ref m, .ref l] ∧ Wd K H p lc ld m ln lt w ∧ WOk w ∧ H l = some (.lst ((forestF w.ties).map fun t => V.int t.num)) ∧ Proper (forestF w.ties) c ∧ ∀ H', Same H H' → Q (.bl (properB w.ties c)) H'
def sp_law_way_row (K : PySem.W.Frag) : Sp := fun vs H Q _ => ∃ (p l : Addr), vs = [.ref p] ∧ ((∃ ns, WayAt K H p l ns ∧ ∀ q l' H', Same H H' → H' q = some (.tup [.str "way", .ref l']) → H' l' = some (.lst (ns.map V.int)) → Q (.ref q) H') ∨
  ∃ xs, BorderAt K H p l xs ∧ ∀ q l' H', Same H H' → H' q = some (.tup [.str "border", .ref l']) → H' l' = some (.lst (xs.map V.str)) → Q (.ref q) H')
def sp_law_ways_good (K : PySem.W.Frag) : Sp := fun vs H Q _ => ∃ (p lc ld m ln lt l : Addr) (w : Wr) (n : Int), vs = [.ref p, .ref m, .ref l, .int n] ∧ Wd K H p lc ld m ln lt w ∧ TxtOk w ∧ 0 ≤ n ∧ n < 2147483648 ∧ LL H l (pcsF w.ties w.names) ∧ ∀ H', Same H H' → Q (.bl true) H'
def sp_law_good (K : PySem.W.Frag) : Sp := fun vs H Q _ => ∃ (p lc ld m ln lt a : Addr) (w : Wr) (n : Int) (xs : List V), vs = [.ref p, .ref m, .int n, .ref a] ∧ Wd K H p lc ld m ln lt w ∧ TxtOk w ∧ 0 ≤ n ∧ n < 2147483648 ∧ HeldAt K H [p, lc, ld, m, ln, lt, a] a xs ∧ xs.length ≤ 1000 ∧ a ∉ [p, lc, ld, m, ln, lt] ∧
  ∀ ys H', Keep [a] H H' → HeldAt K H' [p, lc, ld, m, ln, lt, a] a ys → ys.length ≤ xs.length + 2 → Q (.bl true) H'
def sp_law_filled (K : PySem.W.Frag) : Sp := fun vs H Q _ => ∃ (p lc ld m ln lt po : Addr) (w : Wr) (ps : List Str) (n : Int), vs = [.ref p, .ref m, .ref po, .int n] ∧ Wd K H p lc ld m ln lt w ∧ WOk w ∧ H po = some (.lst (ps.map V.str)) ∧ PoolOk ps ∧ (∀ x ∈ w.names, x ∈ ps) ∧ po ∉ [p, lc, ld, m, ln, lt] ∧
  ∀ w' H', Keep [p, lc, ld, m, ln, lt] H H' → Wd K H' p lc ld m ln lt w' → WOk w' → (∀ x ∈ w'.names, x ∈ ps) → w'.given ≤ w.given + 48 → Q (.bl true) H'
def sp_law (K : PySem.W.Frag) : Sp := fun vs H Q _ => ∃ (a : Addr) (ns : List Int), vs = [.ref a] ∧ SqL K H a (ns.map V.int) ∧ ns.length ≤ 63 ∧ ∀ H', Q (.bl true) H'
end
end RB
/-! The readings of the defs (printed by gen.py). -/
namespace RB
open PySem PySem.Spec PyProof.Rows L2
def t_is_whole (K : PySem.W.Frag) : TS :=
  tRet (tAndV (tCB (rIsi K) (tCons (tVar 0) (tCons (tC (.ty "int")) tNil))) (tNotV (tCB (rIsi K) (tCons (tVar 0) (tCons (tC (.ty "bool")) tNil)))))
def t_is_among (K : PySem.W.Frag) : TS :=
  tRet (tAndV (tCall (sp_is_whole K) [] E0 (tCons (tVar 0) tNil)) (tChain oLe oLe (tVar 1) (tVar 0) (tVar 2)))
def t_are_signs (K : PySem.W.Frag) : TS :=
  tRet (tCB (rAll K) (tCons (tLc (iStr (tVar 0)) (gName 2) (tYes) (tOp oInSg (tVar 2) (tVar 1)) [2]) tNil))
def t_is_name (K : PySem.W.Frag) : TS :=
  tRet (tAndV (tCB (rIsi K) (tCons (tVar 0) (tCons (tC (.ty "str")) tNil))) (tAndV (tChain oLe oLe (tC (.int 1)) (tCB cLenS (tCons (tVar 0) tNil)) (tC (.int 12))) (tCall (sp_are_signs K) [] E0 (tCons (tVar 0) (tCons (tC (.str "abcdefghijklmnopqrstuvwxyz")) tNil)))))
def t_number_text (K : PySem.W.Frag) : TS :=
  tRet (tCB cStrI (tCons (tVar 0) tNil))
def t_number_of (K : PySem.W.Frag) : TS :=
  tSeq (tIfS (tOr (tNot (tB (tCB (rIsi K) (tCons (tVar 0) (tCons (tC (.ty "str")) tNil))))) (tOr (tNot (tTest (tChain oLe oLe (tC (.int 1)) (tCB cLenS (tCons (tVar 0) tNil)) (tC (.int 61))))) (tNot (tB (tCall (sp_are_signs K) [] E0 (tCons (tVar 0) (tCons (tC (.str "0123456789")) tNil))))))) (tRet (tC .non)) tNext)
  (tSeq (tIfS (tAnd (tTest (tOp rEq (tOp rIxS (tVar 0) (tC (.int 0))) (tC (.str "0")))) (tTest (tOp rNe (tVar 0) (tC (.str "0"))))) (tRet (tC .non)) tNext)
  (tRet (tCB cIntS (tCons (tVar 0) tNil))))
def t_words_of (K : PySem.W.Frag) : TS :=
  tSeq (tIfS (tNot (tB (tCB (rIsi K) (tCons (tVar 0) (tCons (tC (.ty "str")) tNil))))) (tRet (tC .non)) tNext)
  (tSeq (tAsg (tM1 mSplit (tVar 0) (tC (.str " "))) (gName 1))
  (tSeq (tIfS (tTest (tOp (rIn K false) (tC (.str "")) (tVar 1))) (tRet (tC .non)) tNext)
  (tRet (tVar 1))))
def t_Way_init (K : PySem.W.Frag) : TS :=
  sFld K (tVar 0) (tCB (cListL K) (tCons (tVar 1) tNil)) "numbers"
def t_Border_init (K : PySem.W.Frag) : TS :=
  sFld K (tVar 0) (tCB (cListL K) (tCons (tVar 1) tNil)) "names"
def t_Sides_init (K : PySem.W.Frag) : TS :=
  sFld K (tVar 0) (tCB cDictD (tCons (tVar 1) tNil)) "sides"
def t_OddRing_init (K : PySem.W.Frag) : TS :=
  sFld K (tVar 0) (tCB (cListL K) (tCons (tVar 1) tNil)) "numbers"
def t_ends_by (K : PySem.W.Frag) : TS :=
  tSeq (tAsg (tDNewK) (gName 1))
  (tSeq (tFor (iList K (tVar 0)) (gName 2) (tSeq (tDrop (tBM K "list" rAppend (tDSetd (tVar 1) (tFld K (tVar 2) "tail") (tLst (tNil))) (tCons (tTup (tCons (tFld K (tVar 2) "number") (tCons (tFld K (tVar 2) "head") tNil))) tNil)))
  (tDrop (tBM K "list" rAppend (tDSetd (tVar 1) (tFld K (tVar 2) "head") (tLst (tNil))) (tCons (tTup (tCons (tFld K (tVar 2) "number") (tCons (tFld K (tVar 2) "tail") tNil))) tNil)))))
  (tRet (tVar 1)))
def t_came_from (K : PySem.W.Frag) : TS :=
  tSeq (tAsg (tDisp ((tVar 1, tTup (tCons (tC .non) (tCons (tC .non) tNil))) :: [])) (gName 2))
  (tSeq (tAsg (tLst (tCons (tVar 1) tNil)) (gName 3))
  (tSeq (tAsg (tC (.int 0)) (gName 4))
  (tSeq (tWhile (tTest (tOp oLt (tVar 4) (tCB (cLenL K) (tCons (tVar 3) tNil)))) (tSeq (tAsg (tOp (rIxL K) (tVar 3) (tVar 4)) (gName 5))
  (tSeq (tAug 4 (tC (.int 1)) (ipI fun i j => i + j))
  (tFor (iList K (tDGet2 (tVar 0) (tVar 5) (tLst (tNil)))) (gTup K 2 (gCons (gName 6) (gCons (gName 7) (gNil)))) (tIfS (tB (tDNotIn (tVar 7) (tVar 2))) (tSeq (sDPut (tVar 2) (tVar 7) (tTup (tCons (tVar 6) (tCons (tVar 5) tNil))))
  (tDrop (tBM K "list" rAppend (tVar 3) (tCons (tVar 7) tNil)))) tNext)))))
  (tRet (tVar 2)))))
def t_way_back (K : PySem.W.Frag) : TS :=
  tSeq (tAsg (tLst (tNil)) (gName 2))
  (tSeq (tAsg (tVar 1) (gName 3))
  (tSeq (tWhile (tTest (tOp oNotN (tOp (rIxT K) (tDGet (tVar 0) (tVar 3)) (tC (.int 1))) (tC .non))) (tSeq (tDrop (tBM K "list" rAppend (tVar 2) (tCons (tOp (rIxT K) (tDGet (tVar 0) (tVar 3)) (tC (.int 0))) tNil)))
  (tAsg (tOp (rIxT K) (tDGet (tVar 0) (tVar 3)) (tC (.int 1))) (gName 3))))
  (tSeq (tDrop (tBM0 K "list" rReverse (tVar 2)))
  (tRet (tVar 2)))))
def t_Web_points (K : PySem.W.Frag) : TS :=
  tRet (tCB (cListL K) (tCons (tFld K (tVar 0) "crowd") tNil))
def t_in_order (K : PySem.W.Frag) : TS :=
  tRet (tLc (iList K (tMeth (He.ga K "Web") "points" (sp_Web_points K) [] E0 (tVar 0) tNil)) (gName 2) (tB (tDIn (tVar 2) (tVar 1))) (tVar 2) [2])
def t_Web_ties (K : PySem.W.Frag) : TS :=
  tRet (tLc (iList K (tCB (rSorted K) (tCons (tCB cListD (tCons (tFld K (tVar 0) "tied") tNil)) tNil))) (gName 1) (tYes) (tDGet (tFld K (tVar 0) "tied") (tVar 1)) [1])
def t_pieces (K : PySem.W.Frag) : TS :=
  tSeq (tAsg (tCall (sp_ends_by K) [] E0 (tCons (tMeth (He.ga K "Web") "ties" (sp_Web_ties K) [] E0 (tVar 0) tNil) tNil)) (gName 1))
  (tSeq (tAsg (tLst (tNil)) (gName 2))
  (tSeq (tAsg (tDNewK) (gName 3))
  (tSeq (tFor (iList K (tMeth (He.ga K "Web") "points" (sp_Web_points K) [] E0 (tVar 0) tNil)) (gName 4) (tIfS (tB (tDNotIn (tVar 4) (tVar 3))) (tSeq (tAsg (tCall (sp_came_from K) [] E0 (tCons (tVar 1) (tCons (tVar 4) tNil))) (gName 5))
  (tSeq (tDrop (tDUpd (tVar 3) (tVar 5)))
  (tDrop (tBM K "list" rAppend (tVar 2) (tCons (tCall (sp_in_order K) [] E0 (tCons (tVar 0) (tCons (tVar 5) tNil))) tNil))))) tNext))
  (tRet (tVar 2)))))
def t_Web_need_point (K : PySem.W.Frag) : TS :=
  tIfS (tOr (tNot (tB (tCB (rIsi K) (tCons (tVar 1) (tCons (tC (.ty "str")) tNil))))) (tTest (tOp (rIn K true) (tVar 1) (tFld K (tVar 0) "crowd")))) (tNever) tNext
def t_together (K : PySem.W.Frag) : TS :=
  tSeq (tDrop (tMeth (He.ga K "Web") "need_point" (sp_Web_need_point K) [] E0 (tVar 0) (tCons (tVar 1) tNil)))
  (tSeq (tDrop (tMeth (He.ga K "Web") "need_point" (sp_Web_need_point K) [] E0 (tVar 0) (tCons (tVar 2) tNil)))
  (tSeq (tAsg (tCall (sp_came_from K) [] E0 (tCons (tCall (sp_ends_by K) [] E0 (tCons (tMeth (He.ga K "Web") "ties" (sp_Web_ties K) [] E0 (tVar 0) tNil) tNil)) (tCons (tVar 1) tNil))) (gName 3))
  (tSeq (tIfS (tB (tDIn (tVar 2) (tVar 3))) (tRet (tMake (He.ga K "Way") (sp_Way_init K) [] E0 (tCons (tCall (sp_way_back K) [] E0 (tCons (tVar 3) (tCons (tVar 2) tNil))) tNil))) tNext)
  (tRet (tMake (He.ga K "Border") (sp_Border_init K) [] E0 (tCons (tCall (sp_in_order K) [] E0 (tCons (tVar 0) (tCons (tVar 3) tNil))) tNil))))))
def t_trees_of (K : PySem.W.Frag) : TS :=
  tSeq (tAsg (tDNewK) (gName 2))
  (tSeq (tFor (iList K (tMeth (He.ga K "Web") "points" (sp_Web_points K) [] E0 (tVar 0) tNil)) (gName 3) (sDPut (tVar 2) (tVar 3) (tVar 3)))
  (tSeq (tAsg (tLst (tNil)) (gName 4))
  (tSeq (tFor (iList K (tVar 1)) (gName 5) (tSeq (tAsg (tTup (tCons (tDGet (tVar 2) (tFld K (tVar 5) "tail")) (tCons (tDGet (tVar 2) (tFld K (tVar 5) "head")) tNil))) (gTup K 2 (gCons (gName 6) (gCons (gName 7) (gNil)))))
  (tIfS (tTest (tOp rNe (tVar 6) (tVar 7))) (tSeq (tDrop (tBM K "list" rAppend (tVar 4) (tCons (tFld K (tVar 5) "number") tNil)))
  (tFor (iList K (tLockE (tLc (iKeys (tVar 2)) (gName 3) (tTest (tOp rEq (tDGet (tVar 2) (tVar 3)) (tVar 7))) (tVar 3) [3]))) (gName 3) (sDPut (tVar 2) (tVar 3) (tVar 6)))) tNext)))
  (tRet (tVar 4)))))
def t_forest (K : PySem.W.Frag) : TS :=
  tRet (tCall (sp_trees_of K) [] E0 (tCons (tVar 0) (tCons (tMeth (He.ga K "Web") "ties" (sp_Web_ties K) [] E0 (tVar 0) tNil) tNil)))
def t_need_forest (K : PySem.W.Frag) : TS :=
  tSeq (tIfS (tOr (tNot (tB (tCB (rIsi K) (tCons (tVar 1) (tCons (tC (.ty "list")) tNil))))) (tNot (tB (tCB (rAll K) (tCons (tLc (iList K (tVar 1)) (gName 3) (tYes) (tCall (sp_is_whole K) [] E0 (tCons (tVar 3) tNil)) [3]) tNil))))) (tNever) tNext)
  (tSeq (tAsg (tLc (iList K (tMeth (He.ga K "Web") "ties" (sp_Web_ties K) [] E0 (tVar 0) tNil)) (gName 4) (tTest (tOp (rIn K false) (tFld K (tVar 4) "number") (tVar 1))) (tVar 4) [4]) (gName 2))
  (tSeq (tIfS (tOr (tTest (tOp rNe (tCB (cLenL K) (tCons (tVar 2) tNil)) (tCB (cLenL K) (tCons (tVar 1) tNil)))) (tOr (tTest (tOp rNe (tCB (cLenL K) (tCons (tCall (sp_trees_of K) [] E0 (tCons (tVar 0) (tCons (tVar 2) tNil))) tNil)) (tCB (cLenL K) (tCons (tVar 2) tNil)))) (tTest (tOp rNe (tCB (cLenL K) (tCons (tVar 2) tNil)) (tCB (cLenL K) (tCons (tCall (sp_forest K) [] E0 (tCons (tVar 0) tNil)) tNil)))))) (tNever) tNext)
  (tRet (tVar 2))))
def t_Web_tie_of (K : PySem.W.Frag) : TS :=
  tSeq (tIfS (tOr (tNot (tB (tCall (sp_is_whole K) [] E0 (tCons (tVar 1) tNil)))) (tB (tDNotIn (tVar 1) (tFld K (tVar 0) "tied")))) (tNever) tNext)
  (tRet (tDGet (tFld K (tVar 0) "tied") (tVar 1)))
def t_ring_by (K : PySem.W.Frag) : TS :=
  tSeq (tAsg (tCall (sp_need_forest K) [] E0 (tCons (tVar 0) (tCons (tVar 1) tNil))) (gName 3))
  (tSeq (tIfS (tOr (tNot (tB (tCall (sp_is_whole K) [] E0 (tCons (tVar 2) tNil)))) (tTest (tOp (rIn K false) (tVar 2) (tVar 1)))) (tNever) tNext)
  (tSeq (tAsg (tMeth (He.ga K "Web") "tie_of" (sp_Web_tie_of K) [] E0 (tVar 0) (tCons (tVar 2) tNil)) (gName 4))
  (tRet (tOp rCat (tLst (tCons (tVar 2) tNil)) (tCall (sp_way_back K) [] E0 (tCons (tCall (sp_came_from K) [] E0 (tCons (tCall (sp_ends_by K) [] E0 (tCons (tVar 3) tNil)) (tCons (tFld K (tVar 4) "head") tNil))) (tCons (tFld K (tVar 4) "tail") tNil)))))))
def t_sides (K : PySem.W.Frag) : TS :=
  tSeq (tAsg (tMeth (He.ga K "Web") "ties" (sp_Web_ties K) [] E0 (tVar 0) tNil) (gName 1))
  (tSeq (tAsg (tCall (sp_forest K) [] E0 (tCons (tVar 0) tNil)) (gName 2))
  (tSeq (tAsg (tCall (sp_ends_by K) [] E0 (tCons (tLc (iList K (tVar 1)) (gName 8) (tTest (tOp (rIn K false) (tFld K (tVar 8) "number") (tVar 2))) (tVar 8) [8]) tNil)) (gName 3))
  (tSeq (tAsg (tDNewK) (gName 4))
  (tSeq (tFor (iList K (tMeth (He.ga K "Web") "points" (sp_Web_points K) [] E0 (tVar 0) tNil)) (gName 5) (tIfS (tB (tDNotIn (tVar 5) (tVar 4))) (tSeq (tAsg (tCall (sp_came_from K) [] E0 (tCons (tVar 3) (tCons (tVar 5) tNil))) (gName 6))
  (tLock (tFor (iKeys (tVar 6)) (gName 7) (sDPut (tVar 4) (tVar 7) (tIf (tTest (tOp oIsN (tOp (rIxT K) (tDGet (tVar 6) (tVar 7)) (tC (.int 1))) (tC .non))) (tC (.int 0)) (tOp oSub (tC (.int 1)) (tDGet (tVar 4) (tOp (rIxT K) (tDGet (tVar 6) (tVar 7)) (tC (.int 1)))))))))) tNext))
  (tSeq (tFor (iList K (tVar 1)) (gName 8) (tIfS (tTest (tOp rEq (tDGet (tVar 4) (tFld K (tVar 8) "tail")) (tDGet (tVar 4) (tFld K (tVar 8) "head")))) (tRet (tMake (He.ga K "OddRing") (sp_OddRing_init K) [] E0 (tCons (tOp rCat (tLst (tCons (tFld K (tVar 8) "number") tNil)) (tCall (sp_way_back K) [] E0 (tCons (tCall (sp_came_from K) [] E0 (tCons (tVar 3) (tCons (tFld K (tVar 8) "head") tNil))) (tCons (tFld K (tVar 8) "tail") tNil)))) tNil))) tNext))
  (tRet (tMake (He.ga K "Sides") (sp_Sides_init K) [] E0 (tCons (tVar 4) tNil))))))))
def t_need_load (K : PySem.W.Frag) : TS :=
  tIfS (tNot (tB (tCall (sp_is_among K) [] E0 (tCons (tVar 0) (tCons (tC (.int 0)) (tCons (tC (.int (10 ^ 60))) tNil)))))) (tNever) tNext
def t_Tie_init (K : PySem.W.Frag) : TS :=
  tSeq (sFld K (tVar 0) (tVar 1) "number")
  (tSeq (sFld K (tVar 0) (tVar 2) "tail")
  (tSeq (sFld K (tVar 0) (tVar 3) "head")
  (tSeq (sFld K (tVar 0) (tVar 4) "load")
  (sFld K (tVar 0) (tVar 5) "is_oneway"))))
def t_moved_tie (K : PySem.W.Frag) : TS :=
  tSeq (tAsg (tIf (tTest (tOp rEq (tFld K (tVar 0) "tail") (tVar 1))) (tVar 2) (tFld K (tVar 0) "tail")) (gName 3))
  (tSeq (tAsg (tIf (tTest (tOp rEq (tFld K (tVar 0) "head") (tVar 1))) (tVar 2) (tFld K (tVar 0) "head")) (gName 4))
  (tRet (tMake (He.ga K "Tie") (sp_Tie_init K) [] E0 (tCons (tFld K (tVar 0) "number") (tCons (tVar 3) (tCons (tVar 4) (tCons (tFld K (tVar 0) "load") (tCons (tFld K (tVar 0) "is_oneway") tNil))))))))
def t_Web_init (K : PySem.W.Frag) : TS :=
  tSeq (sFld K (tVar 0) (tLst (tNil)) "crowd")
  (tSeq (sFld K (tVar 0) (tDNewK) "tied")
  (sFld K (tVar 0) (tC (.int 0)) "last_given"))
def t_Web_given (K : PySem.W.Frag) : TS :=
  tRet (tFld K (tVar 0) "last_given")
def t_Web_need_new (K : PySem.W.Frag) : TS :=
  tSeq (tIfS (tNot (tB (tCall (sp_is_name K) [] E0 (tCons (tVar 1) tNil)))) (tNever) tNext)
  (tIfS (tTest (tOp (rIn K false) (tVar 1) (tFld K (tVar 0) "crowd"))) (tNever) tNext)
def t_Web_need_room (K : PySem.W.Frag) : TS :=
  tIfS (tTest (tOp rEq (tCB (cLenL K) (tCons (tFld K (tVar 0) "crowd") tNil)) (tC (.int 16)))) (tNever) tNext
def t_Web_put_point (K : PySem.W.Frag) : TS :=
  tSeq (tDrop (tMeth (He.ga K "Web") "need_new" (sp_Web_need_new K) [] E0 (tVar 0) (tCons (tVar 1) tNil)))
  (tSeq (tDrop (tMeth (He.ga K "Web") "need_room" (sp_Web_need_room K) [] E0 (tVar 0) tNil))
  (tDrop (tBM K "list" rAppend (tFld K (tVar 0) "crowd") (tCons (tVar 1) tNil))))
def t_Web_drop_point (K : PySem.W.Frag) : TS :=
  tSeq (tDrop (tMeth (He.ga K "Web") "need_point" (sp_Web_need_point K) [] E0 (tVar 0) (tCons (tVar 1) tNil)))
  (tSeq (tIfS (tB (tCB (rAny K) (tCons (tLc (iList K (tMeth (He.ga K "Web") "ties" (sp_Web_ties K) [] E0 (tVar 0) tNil)) (gName 2) (tYes) (tOp (rIn K false) (tVar 1) (tTup (tCons (tFld K (tVar 2) "tail") (tCons (tFld K (tVar 2) "head") tNil)))) [2]) tNil))) (tNever) tNext)
  (tDrop (tBM K "list" mRemS (tFld K (tVar 0) "crowd") (tCons (tVar 1) tNil))))
def t_Web_move_all (K : PySem.W.Frag) : TS :=
  tFor (iList K (tMeth (He.ga K "Web") "ties" (sp_Web_ties K) [] E0 (tVar 0) tNil)) (gName 3) (sDPut (tFld K (tVar 0) "tied") (tFld K (tVar 3) "number") (tCall (sp_moved_tie K) [] E0 (tCons (tVar 3) (tCons (tVar 1) (tCons (tVar 2) tNil)))))
def t_Web_rename (K : PySem.W.Frag) : TS :=
  tSeq (tDrop (tMeth (He.ga K "Web") "need_point" (sp_Web_need_point K) [] E0 (tVar 0) (tCons (tVar 1) tNil)))
  (tSeq (tDrop (tMeth (He.ga K "Web") "need_new" (sp_Web_need_new K) [] E0 (tVar 0) (tCons (tVar 2) tNil)))
  (tSeq (tAsg (tVar 2) (gSub (tFld K (tVar 0) "crowd") (tBM K "list" (rIndex K) (tFld K (tVar 0) "crowd") (tCons (tVar 1) tNil)) rSetL))
  (tDrop (tMeth (He.ga K "Web") "move_all" (sp_Web_move_all K) [] E0 (tVar 0) (tCons (tVar 1) (tCons (tVar 2) tNil))))))
def t_Web_put_numbered (K : PySem.W.Frag) : TS :=
  tSeq (tDrop (tMeth (He.ga K "Web") "need_point" (sp_Web_need_point K) [] E0 (tVar 0) (tCons (tVar 2) tNil)))
  (tSeq (tDrop (tMeth (He.ga K "Web") "need_point" (sp_Web_need_point K) [] E0 (tVar 0) (tCons (tVar 3) tNil)))
  (tSeq (tIfS (tOr (tTest (tOp rEq (tVar 2) (tVar 3))) (tNot (tB (tCB (rIsi K) (tCons (tVar 5) (tCons (tC (.ty "bool")) tNil)))))) (tNever) tNext)
  (tSeq (tDrop (tCall (sp_need_load K) [] E0 (tCons (tVar 4) tNil)))
  (tSeq (tIfS (tTest (tOp rEq (tCB cLenD (tCons (tFld K (tVar 0) "tied") tNil)) (tC (.int 48)))) (tNever) tNext)
  (tSeq (sDPut (tFld K (tVar 0) "tied") (tVar 1) (tMake (He.ga K "Tie") (sp_Tie_init K) [] E0 (tCons (tVar 1) (tCons (tVar 2) (tCons (tVar 3) (tCons (tVar 4) (tCons (tVar 5) tNil)))))))
  (tSeq (sFld K (tVar 0) (tVar 1) "last_given")
  (tRet (tVar 1))))))))
def t_Web_put_tie (K : PySem.W.Frag) : TS :=
  tRet (tMeth (He.ga K "Web") "put_numbered" (sp_Web_put_numbered K) [] E0 (tVar 0) (tCons (tOp oAdd (tFld K (tVar 0) "last_given") (tC (.int 1))) (tCons (tVar 1) (tCons (tVar 2) (tCons (tVar 3) (tCons (tVar 4) tNil))))))
def t_Web_drop_tie (K : PySem.W.Frag) : TS :=
  tSeq (tDrop (tMeth (He.ga K "Web") "tie_of" (sp_Web_tie_of K) [] E0 (tVar 0) (tCons (tVar 1) tNil)))
  (tDrop (tDPop1 (tFld K (tVar 0) "tied") (tVar 1)))
def t_Web_set_load (K : PySem.W.Frag) : TS :=
  tSeq (tAsg (tMeth (He.ga K "Web") "tie_of" (sp_Web_tie_of K) [] E0 (tVar 0) (tCons (tVar 1) tNil)) (gName 3))
  (tSeq (tDrop (tCall (sp_need_load K) [] E0 (tCons (tVar 2) tNil)))
  (sDPut (tFld K (tVar 0) "tied") (tVar 1) (tMake (He.ga K "Tie") (sp_Tie_init K) [] E0 (tCons (tVar 1) (tCons (tFld K (tVar 3) "tail") (tCons (tFld K (tVar 3) "head") (tCons (tVar 2) (tCons (tFld K (tVar 3) "is_oneway") tNil))))))))
def t_Web_join (K : PySem.W.Frag) : TS :=
  tSeq (tDrop (tMeth (He.ga K "Web") "need_point" (sp_Web_need_point K) [] E0 (tVar 0) (tCons (tVar 1) tNil)))
  (tSeq (tDrop (tMeth (He.ga K "Web") "need_point" (sp_Web_need_point K) [] E0 (tVar 0) (tCons (tVar 2) tNil)))
  (tSeq (tIfS (tTest (tOp rEq (tVar 1) (tVar 2))) (tNever) tNext)
  (tSeq (tFor (iList K (tMeth (He.ga K "Web") "ties" (sp_Web_ties K) [] E0 (tVar 0) tNil)) (gName 3) (tIfS (tAnd (tTest (tOp (rIn K false) (tVar 1) (tTup (tCons (tFld K (tVar 3) "tail") (tCons (tFld K (tVar 3) "head") tNil))))) (tTest (tOp (rIn K false) (tVar 2) (tTup (tCons (tFld K (tVar 3) "tail") (tCons (tFld K (tVar 3) "head") tNil)))))) (tDrop (tDPop1 (tFld K (tVar 0) "tied") (tFld K (tVar 3) "number"))) tNext))
  (tSeq (tDrop (tMeth (He.ga K "Web") "move_all" (sp_Web_move_all K) [] E0 (tVar 0) (tCons (tVar 2) (tCons (tVar 1) tNil))))
  (tDrop (tBM K "list" mRemS (tFld K (tVar 0) "crowd") (tCons (tVar 2) tNil)))))))
def t_Web_part (K : PySem.W.Frag) : TS :=
  tSeq (tDrop (tMeth (He.ga K "Web") "need_point" (sp_Web_need_point K) [] E0 (tVar 0) (tCons (tVar 1) tNil)))
  (tSeq (tDrop (tMeth (He.ga K "Web") "need_new" (sp_Web_need_new K) [] E0 (tVar 0) (tCons (tVar 2) tNil)))
  (tSeq (tDrop (tMeth (He.ga K "Web") "need_room" (sp_Web_need_room K) [] E0 (tVar 0) tNil))
  (tSeq (tIfS (tNot (tB (tCB (rIsi K) (tCons (tVar 3) (tCons (tC (.ty "list")) tNil))))) (tNever) tNext)
  (tSeq (tAsg (tLst (tNil)) (gName 4))
  (tSeq (tFor (iList K (tVar 3)) (gName 5) (tSeq (tAsg (tMeth (He.ga K "Web") "tie_of" (sp_Web_tie_of K) [] E0 (tVar 0) (tCons (tVar 5) tNil)) (gName 6))
  (tSeq (tIfS (tOr (tTest (tOp (rIn K true) (tVar 1) (tTup (tCons (tFld K (tVar 6) "tail") (tCons (tFld K (tVar 6) "head") tNil))))) (tTest (tOp (rIn K false) (tVar 5) (tVar 4)))) (tNever) tNext)
  (tDrop (tBM K "list" rAppend (tVar 4) (tCons (tVar 5) tNil))))))
  (tSeq (tDrop (tBM K "list" rAppend (tFld K (tVar 0) "crowd") (tCons (tVar 2) tNil)))
  (tFor (iList K (tVar 4)) (gName 5) (sDPut (tFld K (tVar 0) "tied") (tVar 5) (tCall (sp_moved_tie K) [] E0 (tCons (tDGet (tFld K (tVar 0) "tied") (tVar 5)) (tCons (tVar 1) (tCons (tVar 2) tNil))))))))))))
def t_Web_give (K : PySem.W.Frag) : TS :=
  sFld K (tVar 0) (tVar 1) "last_given"
def t_tie_line (K : PySem.W.Frag) : TS :=
  tSeq (tAsg (tIf (tB (tFld K (tVar 0) "is_oneway")) (tC (.str "way")) (tC (.str "tie"))) (gName 1))
  (tRet (tM1 (mJoin K) (tC (.str " ")) (tLst (tCons (tVar 1) (tCons (tCall (sp_number_text K) [] E0 (tCons (tFld K (tVar 0) "number") tNil)) (tCons (tFld K (tVar 0) "tail") (tCons (tFld K (tVar 0) "head") (tCons (tCall (sp_number_text K) [] E0 (tCons (tFld K (tVar 0) "load") tNil)) tNil))))))))
def t_web_lines (K : PySem.W.Frag) : TS :=
  tSeq (tAsg (tLc (iList K (tMeth (He.ga K "Web") "points" (sp_Web_points K) [] E0 (tVar 0) tNil)) (gName 2) (tYes) (tOp oAddS (tC (.str "point ")) (tVar 2)) [2]) (gName 1))
  (tSeq (tDrop (tBM K "list" rExtend (tVar 1) (tCons (tLc (iList K (tMeth (He.ga K "Web") "ties" (sp_Web_ties K) [] E0 (tVar 0) tNil)) (gName 3) (tYes) (tCall (sp_tie_line K) [] E0 (tCons (tVar 3) tNil)) [3]) tNil)))
  (tRet (tOp rCat (tVar 1) (tLst (tCons (tOp oAddS (tC (.str "given ")) (tCall (sp_number_text K) [] E0 (tCons (tMeth (He.ga K "Web") "given" (sp_Web_given K) [] E0 (tVar 0) tNil) tNil))) tNil)))))
def t_need_line (K : PySem.W.Frag) : TS :=
  tIfS (tNot (tB (tVar 0))) (tNever) tNext
def t_put_tie_line (K : PySem.W.Frag) : TS :=
  tSeq (tDrop (tCall (sp_need_line K) [] E0 (tCons (tOp rEq (tCB (cLenL K) (tCons (tVar 1) tNil)) (tC (.int 5))) tNil)))
  (tSeq (tPar 2 3 (tCons (tCall (sp_number_of K) [] E0 (tCons (tOp (rIxL K) (tVar 1) (tC (.int 1))) tNil)) (tCons (tCall (sp_number_of K) [] E0 (tCons (tOp (rIxL K) (tVar 1) (tC (.int 4))) tNil)) tNil)))
  (tSeq (tDrop (tCall (sp_need_line K) [] E0 (tCons (tCall (sp_is_among K) [] E0 (tCons (tVar 2) (tCons (tOp oAdd (tMeth (He.ga K "Web") "given" (sp_Web_given K) [] E0 (tVar 0) tNil) (tC (.int 1))) (tCons (tC (.int (10 ^ 60))) tNil)))) tNil)))
  (tDrop (tMeth (He.ga K "Web") "put_numbered" (sp_Web_put_numbered K) [] E0 (tVar 0) (tCons (tVar 2) (tCons (tOp (rIxL K) (tVar 1) (tC (.int 2))) (tCons (tOp (rIxL K) (tVar 1) (tC (.int 3))) (tCons (tVar 3) (tCons (tOp rEq (tOp (rIxL K) (tVar 1) (tC (.int 0))) (tC (.str "way"))) tNil)))))))))
def t_put_line (K : PySem.W.Frag) : TS :=
  tSeq (tAsg (tCall (sp_words_of K) [] E0 (tCons (tVar 1) tNil)) (gName 2))
  (tSeq (tDrop (tCall (sp_need_line K) [] E0 (tCons (tOp oNotN (tVar 2) (tC .non)) tNil)))
  (tSeq (tIfS (tTest (tOp (rIn K false) (tOp (rIxL K) (tVar 2) (tC (.int 0))) (tTup (tCons (tC (.str "tie")) (tCons (tC (.str "way")) tNil))))) (tSeq (tDrop (tCall (sp_put_tie_line K) [] E0 (tCons (tVar 0) (tCons (tVar 2) tNil))))
  (tRet (tC (.bl false)))) tNext)
  (tSeq (tDrop (tCall (sp_need_line K) [] E0 (tCons (tOp rEq (tCB (cLenL K) (tCons (tVar 2) tNil)) (tC (.int 2))) tNil)))
  (tSeq (tIfS (tTest (tOp rEq (tOp (rIxL K) (tVar 2) (tC (.int 0))) (tC (.str "point")))) (tSeq (tDrop (tCall (sp_need_line K) [] E0 (tCons (tOp (rEqD K) (tMeth (He.ga K "Web") "ties" (sp_Web_ties K) [] E0 (tVar 0) tNil) (tLst (tNil))) tNil)))
  (tSeq (tDrop (tMeth (He.ga K "Web") "put_point" (sp_Web_put_point K) [] E0 (tVar 0) (tCons (tOp (rIxL K) (tVar 2) (tC (.int 1))) tNil)))
  (tRet (tC (.bl false))))) tNext)
  (tSeq (tDrop (tCall (sp_need_line K) [] E0 (tCons (tAndV (tOp rEq (tOp (rIxL K) (tVar 2) (tC (.int 0))) (tC (.str "given"))) (tCall (sp_is_among K) [] E0 (tCons (tCall (sp_number_of K) [] E0 (tCons (tOp (rIxL K) (tVar 2) (tC (.int 1))) tNil)) (tCons (tMeth (He.ga K "Web") "given" (sp_Web_given K) [] E0 (tVar 0) tNil) (tCons (tC (.int (10 ^ 60))) tNil))))) tNil)))
  (tSeq (tDrop (tMeth (He.ga K "Web") "give" (sp_Web_give K) [] E0 (tVar 0) (tCons (tCall (sp_number_of K) [] E0 (tCons (tOp (rIxL K) (tVar 2) (tC (.int 1))) tNil)) tNil)))
  (tRet (tC (.bl true)))))))))
def t_web_of (K : PySem.W.Frag) : TS :=
  tSeq (tIfS (tNot (tB (tCB (rIsi K) (tCons (tVar 0) (tCons (tC (.ty "list")) tNil))))) (tNever) tNext)
  (tSeq (tAsg (tMake (He.ga K "Web") (sp_Web_init K) [] E0 tNil) (gName 1))
  (tSeq (tAsg (tC (.bl false)) (gName 2))
  (tSeq (tFor (iEnum K (tCons (tVar 0) tNil)) (gTup K 2 (gCons (gName 3) (gCons (gName 4) (gNil)))) (tSeq (tAsg (tNotV (tVar 2)) (gName 5))
  (tSeq (tAsg (tAndV (tVar 5) (tCall (sp_put_line K) [] E0 (tCons (tVar 1) (tCons (tVar 4) tNil)))) (gName 2))
  (tIfS (tNot (tB (tVar 5))) (tNever) tNext))))
  (tSeq (tIfS (tNot (tB (tVar 2))) (tNever) tNext)
  (tRet (tVar 1))))))
def t_law_draw (K : PySem.W.Frag) : TS :=
  tSeq (tAsg (tVar 0) (gName 3))
  (tSeq (tFor (iRng1 (tCons (tOp oMul (tVar 2) (tCB cInt1 (tCons (tOp oGe (tVar 0) (tOp oPow (tC (.int 10)) (tC (.int 18)))) tNil))) tNil)) (gName 4) (tAsg (tOp oDiv (tVar 3) (tC (.int 2147483629))) (gName 3)))
  (tSeq (tIfS (tAnd (tTest (tOp oGe (tVar 0) (tOp oPow (tC (.int 10)) (tC (.int 18))))) (tTest (tOp oGt (tVar 3) (tC (.int 0))))) (tRet (tOp oMod (tVar 3) (tC (.int 715827876)))) tNext)
  (tSeq (tAsg (tOp oAdd (tOp oMul (tOp oMul (tOp oAdd (tVar 1) (tC (.int 3))) (tOp oAdd (tVar 1) (tC (.int 3)))) (tC (.int 40692))) (tOp oMul (tOp oMul (tOp oAdd (tVar 2) (tC (.int 7))) (tOp oAdd (tVar 2) (tC (.int 7)))) (tC (.int 69621)))) (gName 5))
  (tRet (tOp oDiv (tOp oMod (tOp oMul (tOp oMod (tOp oAdd (tOp oMul (tOp oMod (tVar 0) (tC (.int 2147483629))) (tC (.int 48271))) (tVar 5)) (tC (.int 2147483647))) (tC (.int 16807))) (tC (.int 2147483629))) (tC (.int 3)))))))
def t_law_load (K : PySem.W.Frag) : TS :=
  tSeq (tAsg (tCall (sp_law_draw K) [] E0 (tCons (tVar 0) (tCons (tVar 1) (tCons (tVar 2) tNil)))) (gName 3))
  (tSeq (tAsg (tLst (tCons (tOp oMod (tOp oDiv (tVar 3) (tC (.int 4))) (tC (.int 4))) (tCons (tOp oMod (tOp oDiv (tVar 3) (tC (.int 4))) (tC (.int 1000))) (tCons (tOp oMod (tOp oAdd (tVar 0) (tVar 3)) (tOp oAdd (tOp oPow (tC (.int 10)) (tC (.int 60))) (tC (.int 1)))) (tCons (tOp oSub (tOp oPow (tC (.int 10)) (tC (.int 60))) (tOp oMod (tOp oDiv (tVar 3) (tC (.int 4))) (tC (.int 3)))) tNil))))) (gName 4))
  (tRet (tOp (rIxL K) (tVar 4) (tOp oMod (tVar 3) (tC (.int 4))))))
def t_law_pool (K : PySem.W.Frag) : TS :=
  tSeq (tAsg (tC (.str "abcdefghijklmnopqrstuvwxyz")) (gName 1))
  (tSeq (tAsg (tCall (sp_law_draw K) [] E0 (tCons (tVar 0) (tCons (tC (.int 70)) (tCons (tC (.int 1)) tNil)))) (gName 2))
  (tSeq (tAsg (tM1 (mJoin K) (tC (.str "")) (tLc (iRng1 (tCons (tC (.int 12)) tNil)) (gName 8) (tYes) (tOp rIxS (tVar 1) (tOp oMod (tOp oAdd (tOp oDiv (tVar 2) (tC (.int 7))) (tOp oMul (tOp oAdd (tC (.int 3)) (tOp oMod (tVar 2) (tC (.int 5)))) (tVar 8))) (tC (.int 26)))) [8])) (gName 3))
  (tSeq (tAsg (tSl rSlS (tVar 3) tNoPart (tPart (tOp oMod (tVar 2) (tC (.int 8))))) (gName 4))
  (tSeq (tAsg (tOp oMod (tOp oDiv (tVar 2) (tC (.int 200))) (tOp oAdd (tCB cLenS (tCons (tVar 4) tNil)) (tC (.int 1)))) (gName 5))
  (tSeq (tAsg (tLc (iRng1 (tCons (tC (.int 22)) tNil)) (gName 8) (tYes) (tOp rIxS (tVar 1) (tOp oMod (tOp oAdd (tOp oDiv (tVar 2) (tC (.int 2000))) (tOp oMul (tC (.int 5)) (tVar 8))) (tC (.int 26)))) [8]) (gName 6))
  (tSeq (tAsg (tLc (iList K (tVar 6)) (gName 9) (tYes) (tOp oAddS (tOp oAddS (tSl rSlS (tVar 4) tNoPart (tPart (tVar 5))) (tVar 9)) (tSl rSlS (tVar 4) (tPart (tVar 5)) tNoPart)) [9]) (gName 7))
  (tSeq (tIfS (tTest (tOp rEq (tOp oMod (tOp oDiv (tVar 2) (tC (.int 9))) (tC (.int 3))) (tC (.int 1)))) (tAsg (tOp rCat (tLc (iRng1 (tCons (tC (.int 12)) tNil)) (gName 8) (tYes) (tSl rSlS (tVar 3) tNoPart (tPart (tOp oAdd (tVar 8) (tC (.int 1))))) [8]) (tVar 7)) (gName 7)) tNext)
  (tRet (tSl (rSlL K) (tLc (iEnum K (tCons (tVar 7) tNil)) (gTup K 2 (gCons (gName 8) (gCons (gName 10) (gNil)))) (tTest (tOp (rIn K true) (tVar 10) (tSl (rSlL K) (tVar 7) tNoPart (tPart (tVar 8))))) (tVar 10) [8, 10]) tNoPart (tPart (tC (.int 22))))))))))))
def t_law_whole (K : PySem.W.Frag) : TS :=
  tRet (tAndV (tCB (rIsi K) (tCons (tVar 0) (tCons (tC (.ty "int")) tNil))) (tAndV (tNotV (tCB (rIsi K) (tCons (tVar 0) (tCons (tC (.ty "bool")) tNil)))) (tOp rEq (tVar 0) (tVar 1))))
def t_law_put_tie (K : PySem.W.Frag) : TS :=
  tSeq (tAsg (tDGet (tVar 1) (tC (.str "names"))) (gName 4))
  (tSeq (tAsg (tCall (sp_law_draw K) [] E0 (tCons (tVar 2) (tCons (tVar 3) (tCons (tC (.int 2)) tNil)))) (gName 5))
  (tSeq (tAsg (tOp (rIxL K) (tVar 4) (tOp oMod (tVar 5) (tCB (cLenL K) (tCons (tVar 4) tNil)))) (gName 6))
  (tSeq (tAsg (tOp (rIxL K) (tVar 4) (tOp oMod (tOp oAdd (tOp oAdd (tVar 5) (tC (.int 1))) (tOp oMod (tOp oDiv (tVar 5) (tC (.int 16))) (tOp oSub (tCB (cLenL K) (tCons (tVar 4) tNil)) (tC (.int 1))))) (tCB (cLenL K) (tCons (tVar 4) tNil)))) (gName 7))
  (tSeq (tAsg (tCall (sp_law_load K) [] E0 (tCons (tVar 2) (tCons (tVar 3) (tCons (tC (.int 3)) tNil)))) (gName 8))
  (tSeq (tAsg (tOp rEq (tOp oMod (tOp oDiv (tVar 5) (tC (.int 300))) (tC (.int 2))) (tC (.int 1))) (gName 9))
  (tSeq (tIfS (tTest (tOp rEq (tOp oMod (tOp oDiv (tVar 5) (tC (.int 600))) (tC (.int 4))) (tC (.int 0)))) (tSeq (tAsg (tTup (tCons (tC (.int 0)) (tCons (tC (.bl false)) tNil))) (gTup K 2 (gCons (gName 8) (gCons (gName 9) (gNil)))))
  (tAsg (tMeth (He.ga K "Web") "put_tie" (sp_Web_put_tie K) [.int 0, .bl false] E0 (tVar 0) (tCons (tVar 6) (tCons (tVar 7) tNil))) (gName 10))) (tIfS (tTest (tOp rEq (tOp oMod (tOp oDiv (tVar 5) (tC (.int 600))) (tC (.int 4))) (tC (.int 1)))) (tSeq (tAsg (tC (.bl false)) (gName 9))
  (tAsg (tMeth (He.ga K "Web") "put_tie" (sp_Web_put_tie K) [.bl false] E0 (tVar 0) (tCons (tVar 6) (tCons (tVar 7) (tCons (tVar 8) tNil)))) (gName 10))) (tAsg (tMeth (He.ga K "Web") "put_tie" (sp_Web_put_tie K) [] E0 (tVar 0) (tCons (tVar 6) (tCons (tVar 7) (tCons (tVar 8) (tCons (tVar 9) tNil))))) (gName 10))))
  (tSeq (sDPut (tVar 1) (tC (.str "given")) (tOp oAdd (tDGet (tVar 1) (tC (.str "given"))) (tC (.int 1))))
  (tSeq (sDPut (tDGet (tVar 1) (tC (.str "ties"))) (tDGet (tVar 1) (tC (.str "given"))) (tTup (tCons (tVar 6) (tCons (tVar 7) (tCons (tVar 8) (tCons (tVar 9) tNil))))))
  (tRet (tCall (sp_law_whole K) [] E0 (tCons (tVar 10) (tCons (tDGet (tVar 1) (tC (.str "given"))) tNil))))))))))))
def t_law_tie_changed (K : PySem.W.Frag) : TS :=
  tSeq (tAsg (tCall (sp_law_draw K) [] E0 (tCons (tVar 2) (tCons (tVar 3) (tCons (tC (.int 4)) tNil)))) (gName 5))
  (tSeq (tAsg (tOp (rIxL K) (tCB cSortD (tCons (tDGet (tVar 1) (tC (.str "ties"))) tNil)) (tOp oMod (tVar 5) (tCB cLenD (tCons (tDGet (tVar 1) (tC (.str "ties"))) tNil)))) (gName 6))
  (tSeq (tIfS (tB (tVar 4)) (tSeq (tDrop (tDPop1 (tDGet (tVar 1) (tC (.str "ties"))) (tVar 6)))
  (tRet (tOp oIsN (tMeth (He.ga K "Web") "drop_tie" (sp_Web_drop_tie K) [] E0 (tVar 0) (tCons (tVar 6) tNil)) (tC .non)))) tNext)
  (tSeq (tAsg (tDGet (tDGet (tVar 1) (tC (.str "ties"))) (tVar 6)) (gTup K 4 (gCons (gName 7) (gCons (gName 8) (gCons (gName 9) (gCons (gName 10) (gNil)))))))
  (tSeq (tAsg (tCall (sp_law_load K) [] E0 (tCons (tVar 2) (tCons (tVar 3) (tCons (tC (.int 5)) tNil)))) (gName 9))
  (tSeq (sDPut (tDGet (tVar 1) (tC (.str "ties"))) (tVar 6) (tTup (tCons (tVar 7) (tCons (tVar 8) (tCons (tVar 9) (tCons (tVar 10) tNil))))))
  (tRet (tOp oIsN (tMeth (He.ga K "Web") "set_load" (sp_Web_set_load K) [] E0 (tVar 0) (tCons (tVar 6) (tCons (tVar 9) tNil))) (tC .non))))))))
def t_law_moved (K : PySem.W.Frag) : TS :=
  tFor (iList K (tVar 3)) (gName 4) (tSeq (tAsg (tDGet (tDGet (tVar 0) (tC (.str "ties"))) (tVar 4)) (gTup K 4 (gCons (gName 5) (gCons (gName 6) (gCons (gName 7) (gCons (gName 8) (gNil)))))))
  (tSeq (tAsg (tIf (tTest (tOp rEq (tVar 5) (tVar 1))) (tVar 2) (tVar 5)) (gName 5))
  (sDPut (tDGet (tVar 0) (tC (.str "ties"))) (tVar 4) (tTup (tCons (tVar 5) (tCons (tIf (tTest (tOp rEq (tVar 6) (tVar 1))) (tVar 2) (tVar 6)) (tCons (tVar 7) (tCons (tVar 8) tNil))))))))
def t_law_at (K : PySem.W.Frag) : TS :=
  tRet (tLc (iList K (tCB cSortD (tCons (tDGet (tVar 0) (tC (.str "ties"))) tNil))) (gName 2) (tTest (tOp (rIn K false) (tVar 1) (tSl (rSlT K) (tDGet (tDGet (tVar 0) (tC (.str "ties"))) (tVar 2)) tNoPart (tPart (tC (.int 2)))))) (tVar 2) [2])
def t_law_point_changed (K : PySem.W.Frag) : TS :=
  tSeq (tAsg (tDGet (tVar 1) (tC (.str "names"))) (gName 6))
  (tSeq (tAsg (tCall (sp_law_draw K) [] E0 (tCons (tVar 3) (tCons (tVar 4) (tCons (tC (.int 6)) tNil)))) (gName 7))
  (tSeq (tAsg (tOp (rIxL K) (tVar 6) (tOp oMod (tVar 7) (tCB (cLenL K) (tCons (tVar 6) tNil)))) (gName 8))
  (tSeq (tAsg (tCall (sp_law_at K) [] E0 (tCons (tVar 1) (tCons (tVar 8) tNil))) (gName 9))
  (tSeq (tAsg (tOp (rIxL K) (tVar 2) (tOp oMod (tOp oDiv (tVar 7) (tC (.int 20))) (tCB (cLenL K) (tCons (tVar 2) tNil)))) (gName 10))
  (tSeq (tIfS (tTest (tOp rEq (tVar 5) (tC (.int 0)))) (tSeq (tAsg (tVar 10) (gSub (tVar 6) (tBM K "list" (rIndex K) (tVar 6) (tCons (tVar 8) tNil)) rSetL))
  (tSeq (tDrop (tCall (sp_law_moved K) [] E0 (tCons (tVar 1) (tCons (tVar 8) (tCons (tVar 10) (tCons (tVar 9) tNil))))))
  (tRet (tOp oIsN (tMeth (He.ga K "Web") "rename" (sp_Web_rename K) [] E0 (tVar 0) (tCons (tVar 8) (tCons (tVar 10) tNil))) (tC .non))))) tNext)
  (tSeq (tIfS (tAnd (tTest (tOp rEq (tVar 5) (tC (.int 1)))) (tTest (tOp oLt (tCB (cLenL K) (tCons (tVar 6) tNil)) (tC (.int 16))))) (tSeq (tAsg (tLc (iRng1 (tCons (tCB (cLenL K) (tCons (tVar 9) tNil)) tNil)) (gName 17) (tYes) (tOp oMod (tOp oDiv (tVar 7) (tOp oShl (tC (.int 1)) (tOp oMod (tVar 17) (tC (.int 20))))) (tC (.int 2))) [17]) (gName 11))
  (tSeq (tAsg (tSlStep K (tLc (iZip K (tCons (tVar 9) (tCons (tVar 11) tNil))) (gTup K 2 (gCons (gName 14) (gCons (gName 18) (gNil)))) (tTest (tOp rEq (tVar 18) (tC (.int 1)))) (tVar 14) [14, 18]) (tOp (rIxL K) (tLst (tCons (tC (.int 1)) (tCons (tUn (rU fun i => .int (-i)) (tC (.int 1))) tNil))) (tOp oMod (tVar 7) (tC (.int 2))))) (gName 12))
  (tSeq (tDrop (tBM K "list" rAppend (tVar 6) (tCons (tVar 10) tNil)))
  (tSeq (tDrop (tCall (sp_law_moved K) [] E0 (tCons (tVar 1) (tCons (tVar 8) (tCons (tVar 10) (tCons (tVar 12) tNil))))))
  (tSeq (tAsg (tCB (cListL K) (tCons (tVar 12) tNil)) (gName 13))
  (tRet (tAndV (tOp oIsN (tMeth (He.ga K "Web") "part" (sp_Web_part K) [] E0 (tVar 0) (tCons (tVar 8) (tCons (tVar 10) (tCons (tVar 13) tNil)))) (tC .non)) (tOp (rEqD K) (tVar 13) (tVar 12))))))))) tNext)
  (tSeq (tIfS (tAnd (tTest (tOp rEq (tVar 5) (tC (.int 2)))) (tTest (tOp oGt (tCB (cLenL K) (tCons (tVar 6) tNil)) (tC (.int 2))))) (tSeq (tAsg (tOp (rIxL K) (tVar 6) (tOp oMod (tOp oAdd (tOp oAdd (tVar 7) (tC (.int 1))) (tOp oMod (tOp oDiv (tVar 7) (tC (.int 16))) (tOp oSub (tCB (cLenL K) (tCons (tVar 6) tNil)) (tC (.int 1))))) (tCB (cLenL K) (tCons (tVar 6) tNil)))) (gName 10))
  (tSeq (tFor (iList K (tLc (iList K (tVar 9)) (gName 14) (tTest (tOp (rIn K false) (tVar 10) (tSl (rSlT K) (tDGet (tDGet (tVar 1) (tC (.str "ties"))) (tVar 14)) tNoPart (tPart (tC (.int 2)))))) (tVar 14) [14])) (gName 14) (tDrop (tDPop1 (tDGet (tVar 1) (tC (.str "ties"))) (tVar 14))))
  (tSeq (tDrop (tCall (sp_law_moved K) [] E0 (tCons (tVar 1) (tCons (tVar 10) (tCons (tVar 8) (tCons (tCall (sp_law_at K) [] E0 (tCons (tVar 1) (tCons (tVar 10) tNil))) tNil))))))
  (tSeq (tDrop (tBM K "list" mRemS (tVar 6) (tCons (tVar 10) tNil)))
  (tRet (tOp oIsN (tMeth (He.ga K "Web") "join" (sp_Web_join K) [] E0 (tVar 0) (tCons (tVar 8) (tCons (tVar 10) tNil))) (tC .non))))))) tNext)
  (tSeq (tAsg (tLc (iList K (tVar 6)) (gName 19) (tTest (tOp (rEqD K) (tCall (sp_law_at K) [] E0 (tCons (tVar 1) (tCons (tVar 19) tNil))) (tLst (tNil)))) (tVar 19) [19]) (gName 15))
  (tSeq (tIfS (tOr (tTest (tOp (rEqD K) (tVar 15) (tLst (tNil)))) (tTest (tOp oLt (tCB (cLenL K) (tCons (tVar 6) tNil)) (tC (.int 3))))) (tRet (tC (.bl true))) tNext)
  (tSeq (tDrop (tBM K "list" mRemS (tVar 6) (tCons (tOp (rIxL K) (tVar 15) (tOp oMod (tVar 7) (tCB (cLenL K) (tCons (tVar 15) tNil)))) tNil)))
  (tSeq (tAsg (tOp (rIxL K) (tLc (iList K (tVar 15)) (gName 19) (tTest (tOp (rIn K true) (tVar 19) (tVar 6))) (tVar 19) [19]) (tC (.int 0))) (gName 16))
  (tRet (tOp oIsN (tMeth (He.ga K "Web") "drop_point" (sp_Web_drop_point K) [] E0 (tVar 0) (tCons (tVar 16) tNil)) (tC .non))))))))))))))
def t_law_deed (K : PySem.W.Frag) : TS :=
  tSeq (tAsg (tDGet (tVar 1) (tC (.str "names"))) (gName 5))
  (tSeq (tAsg (tOp oMod (tCall (sp_law_draw K) [] E0 (tCons (tVar 3) (tCons (tVar 4) (tCons (tC (.int 0)) tNil)))) (tC (.int 16))) (gName 6))
  (tSeq (tIfS (tAnd (tTest (tOp rEq (tCB cLenS (tCons (tOp (rIxL K) (tVar 2) (tC (.int 0))) tNil)) (tC (.int 5)))) (tTest (tOp oGt (tCB (cLenL K) (tCons (tVar 5) tNil)) (tC (.int 2))))) (tAsg (tC (.int 5)) (gName 6)) tNext)
  (tSeq (tAsg (tLc (iList K (tVar 2)) (gName 8) (tTest (tOp (rIn K true) (tVar 8) (tVar 5))) (tVar 8) [8]) (gName 7))
  (tSeq (tIfS (tAnd (tOr (tTest (tOp oLt (tVar 6) (tC (.int 5)))) (tTest (tOp oLt (tCB (cLenL K) (tCons (tVar 5) tNil)) (tC (.int 2))))) (tTest (tOp oLt (tCB (cLenL K) (tCons (tVar 5) tNil)) (tC (.int 16))))) (tSeq (tAsg (tOp (rIxL K) (tVar 7) (tOp oMod (tCall (sp_law_draw K) [] E0 (tCons (tVar 3) (tCons (tVar 4) (tCons (tC (.int 1)) tNil)))) (tCB (cLenL K) (tCons (tVar 7) tNil)))) (gName 8))
  (tSeq (tDrop (tBM K "list" rAppend (tVar 5) (tCons (tVar 8) tNil)))
  (tRet (tOp oIsN (tMeth (He.ga K "Web") "put_point" (sp_Web_put_point K) [] E0 (tVar 0) (tCons (tVar 8) tNil)) (tC .non))))) tNext)
  (tSeq (tIfS (tAnd (tTest (tOp oLt (tVar 6) (tC (.int 11)))) (tTest (tOp oLt (tCB cLenD (tCons (tDGet (tVar 1) (tC (.str "ties"))) tNil)) (tC (.int 48))))) (tRet (tCall (sp_law_put_tie K) [] E0 (tCons (tVar 0) (tCons (tVar 1) (tCons (tVar 3) (tCons (tVar 4) tNil)))))) tNext)
  (tSeq (tIfS (tAnd (tTest (tOp oGt (tOp oMod (tVar 6) (tC (.int 16))) (tC (.int 12)))) (tTest (tOp oNeDK (tDGet (tVar 1) (tC (.str "ties"))) (tDNewK)))) (tRet (tCall (sp_law_tie_changed K) [] E0 (tCons (tVar 0) (tCons (tVar 1) (tCons (tVar 3) (tCons (tVar 4) (tCons (tOp rEq (tOp oMod (tVar 6) (tC (.int 2))) (tC (.int 1))) tNil))))))) tNext)
  (tRet (tCall (sp_law_point_changed K) [] E0 (tCons (tVar 0) (tCons (tVar 1) (tCons (tVar 7) (tCons (tVar 3) (tCons (tVar 4) (tCons (tOp oMod (tCall (sp_law_draw K) [] E0 (tCons (tVar 3) (tCons (tVar 4) (tCons (tC (.int 7)) tNil)))) (tC (.int 4))) tNil))))))))))))))
def t_law_row (K : PySem.W.Frag) : TS :=
  tSeq (tAsg (tTup (tCons (tFld K (tVar 0) "number") (tCons (tFld K (tVar 0) "tail") (tCons (tFld K (tVar 0) "head") (tCons (tFld K (tVar 0) "load") (tCons (tFld K (tVar 0) "is_oneway") tNil)))))) (gName 1))
  (tSeq (tIfS (tTest (tOp (rNeD K) (tLc (iTup K (tTup (tCons (tOp (rIxT K) (tVar 1) (tC (.int 0))) (tCons (tOp (rIxT K) (tVar 1) (tC (.int 3))) tNil)))) (gName 2) (tOr (tB (tCB (rIsi K) (tCons (tVar 2) (tCons (tC (.ty "bool")) tNil)))) (tNot (tB (tCB (rIsi K) (tCons (tVar 2) (tCons (tC (.ty "int")) tNil)))))) (tVar 2) [2]) (tLst (tNil)))) (tRet (tC .non)) tNext)
  (tRet (tIf (tAnd (tB (tCB (rIsi K) (tCons (tOp (rIxT K) (tVar 1) (tC (.int 1))) (tCons (tC (.ty "str")) tNil)))) (tAnd (tB (tCB (rIsi K) (tCons (tOp (rIxT K) (tVar 1) (tC (.int 2))) (tCons (tC (.ty "str")) tNil)))) (tB (tCB (rIsi K) (tCons (tOp (rIxT K) (tVar 1) (tC (.int 4))) (tCons (tC (.ty "bool")) tNil)))))) (tVar 1) (tC .non))))
def t_law_rows (K : PySem.W.Frag) : TS :=
  tRet (tLc (iList K (tCB cSortD (tCons (tDGet (tVar 0) (tC (.str "ties"))) tNil))) (gName 1) (tYes) (tOp (rCatT K) (tTup (tCons (tVar 1) tNil)) (tDGet (tDGet (tVar 0) (tC (.str "ties"))) (tVar 1))) [1])
def t_law_stands (K : PySem.W.Frag) : TS :=
  tSeq (tAsg (tLc (iList K (tMeth (He.ga K "Web") "ties" (sp_Web_ties K) [] E0 (tVar 0) tNil)) (gName 3) (tYes) (tCall (sp_law_row K) [] E0 (tCons (tVar 3) tNil)) [3]) (gName 2))
  (tSeq (tIfS (tOr (tTest (tOp (rNeD K) (tMeth (He.ga K "Web") "points" (sp_Web_points K) [] E0 (tVar 0) tNil) (tDGet (tVar 1) (tC (.str "names"))))) (tTest (tOp (rNeD K) (tVar 2) (tCall (sp_law_rows K) [] E0 (tCons (tVar 1) tNil))))) (tRet (tC (.bl false))) tNext)
  (tRet (tCall (sp_law_whole K) [] E0 (tCons (tMeth (He.ga K "Web") "given" (sp_Web_given K) [] E0 (tVar 0) tNil) (tCons (tDGet (tVar 1) (tC (.str "given"))) tNil)))))
def t_law_none (K : PySem.W.Frag) : TS :=
  tRet (tDisp ((tC (.str "names"), tLst (tNil)) :: (tC (.str "ties"), tDNewK) :: (tC (.str "given"), tC (.int 0)) :: []))
def t_law_trees (K : PySem.W.Frag) : TS :=
  tSeq (tAsg (tDNewK) (gName 2))
  (tSeq (tFor (iList K (tDGet (tVar 0) (tC (.str "names")))) (gName 3) (sDPut (tVar 2) (tVar 3) (tVar 3)))
  (tSeq (tFor (iList K (tVar 1)) (gName 4) (tSeq (tAsg (tLc (iTup K (tSl (rSlT K) (tDGet (tDGet (tVar 0) (tC (.str "ties"))) (tVar 4)) tNoPart (tPart (tC (.int 2))))) (gName 3) (tYes) (tDGet (tVar 2) (tVar 3)) [3]) (gUnl K 2 (gCons (gName 5) (gCons (gName 6) (gNil)))))
  (tFor (iList K (tDGet (tVar 0) (tC (.str "names")))) (gName 3) (tIfS (tTest (tOp rEq (tDGet (tVar 2) (tVar 3)) (tVar 6))) (sDPut (tVar 2) (tVar 3) (tVar 5)) tNext))))
  (tRet (tVar 2))))
def t_law_pieces (K : PySem.W.Frag) : TS :=
  tSeq (tAsg (tCall (sp_law_trees K) [] E0 (tCons (tVar 0) (tCons (tCB cSortD (tCons (tDGet (tVar 0) (tC (.str "ties"))) tNil)) tNil))) (gName 1))
  (tSeq (tAsg (tLst (tNil)) (gName 2))
  (tSeq (tFor (iList K (tDGet (tVar 0) (tC (.str "names")))) (gName 3) (tSeq (tAsg (tLc (iList K (tDGet (tVar 0) (tC (.str "names")))) (gName 5) (tTest (tOp rEq (tDGet (tVar 1) (tVar 5)) (tDGet (tVar 1) (tVar 3)))) (tVar 5) [5]) (gName 4))
  (tIfS (tTest (tOp (rNotInD K) (tVar 4) (tVar 2))) (tDrop (tBM K "list" rAppend (tVar 2) (tCons (tVar 4) tNil))) tNext)))
  (tRet (tVar 2))))
def t_law_gone (K : PySem.W.Frag) : TS :=
  tSeq (tAsg (tLst (tCons (tVar 2) tNil)) (gName 3))
  (tSeq (tFor (iList K (tVar 1)) (gName 4) (tSeq (tIfS (tOr (tB (tDNotIn (tVar 4) (tDGet (tVar 0) (tC (.str "ties"))))) (tTest (tOp (rIn K true) (tOp (rIxL K) (tVar 3) (tUn (rU fun i => .int (-i)) (tC (.int 1)))) (tSl (rSlT K) (tDGet (tDGet (tVar 0) (tC (.str "ties"))) (tVar 4)) tNoPart (tPart (tC (.int 2))))))) (tRet (tC .non)) tNext)
  (tSeq (tAsg (tSl (rSlT K) (tDGet (tDGet (tVar 0) (tC (.str "ties"))) (tVar 4)) tNoPart (tPart (tC (.int 2)))) (gName 5))
  (tDrop (tBM K "list" rAppend (tVar 3) (tCons (tIf (tTest (tOp rEq (tOp (rIxT K) (tVar 5) (tC (.int 0))) (tOp (rIxL K) (tVar 3) (tUn (rU fun i => .int (-i)) (tC (.int 1)))))) (tOp (rIxT K) (tVar 5) (tC (.int 1))) (tOp (rIxT K) (tVar 5) (tC (.int 0)))) tNil))))))
  (tRet (tVar 3)))
def t_law_turned (K : PySem.W.Frag) : TS :=
  tSeq (tAsg (tLst (tNil)) (gName 3))
  (tSeq (tFor (iEnum K (tCons (tVar 0) tNil)) (gTup K 2 (gCons (gName 4) (gCons (gName 5) (gNil)))) (tSeq (tAsg (tM1 mSplit (tVar 5) (tC (.str " "))) (gName 6))
  (tSeq (tIfS (tTest (tOp rEq (tCB (cLenL K) (tCons (tVar 6) tNil)) (tC (.int 5)))) (tSeq (tAsg (tOp oMod (tOp oDiv (tVar 1) (tOp oShl (tC (.int 1)) (tOp oMod (tVar 4) (tC (.int 20))))) (tC (.int 4))) (gName 7))
  (tSeq (tAsg (tIf (tTest (tOp rEq (tVar 2) (tC (.int 2)))) (tOp (rIxL K) (tVar 6) (tC (.int 0))) (tOp (rIxL K) (tLst (tCons (tC (.str "tie")) (tCons (tC (.str "way")) tNil))) (tOp oMod (tVar 7) (tC (.int 2))))) (gName 8))
  (tSeq (tAsg (tIf (tAnd (tTest (tOp rEq (tVar 2) (tC (.int 0)))) (tTest (tOp oGt (tVar 7) (tC (.int 1))))) (tRevL K (tSl (rSlL K) (tVar 6) (tPart (tC (.int 2))) (tPart (tC (.int 4))))) (tSl (rSlL K) (tVar 6) (tPart (tC (.int 2))) (tPart (tC (.int 4))))) (gName 9))
  (tAsg (tOp rCat (tOp rCat (tLst (tCons (tVar 8) (tCons (tOp (rIxL K) (tVar 6) (tC (.int 1))) tNil))) (tVar 9)) (tLst (tCons (tCB cStrI (tCons (tOp oMod (tOp oDiv (tVar 1) (tOp oAdd (tC (.int 1)) (tVar 4))) (tC (.int 1000))) tNil)) tNil))) (gName 6))))) tNext)
  (tDrop (tBM K "list" rAppend (tVar 3) (tCons (tM1 (mJoin K) (tC (.str " ")) (tVar 6)) tNil))))))
  (tRet (tVar 3)))
def t_law_rings_even (K : PySem.W.Frag) : TS :=
  tSeq (tAsg (tC (.bl true)) (gName 3))
  (tSeq (tFor (iList K (tLc (iList K (tCB cSortD (tCons (tDGet (tVar 1) (tC (.str "ties"))) tNil))) (gName 4) (tTest (tOp (rIn K true) (tVar 4) (tVar 2))) (tVar 4) [4])) (gName 4) (tSeq (tAsg (tCall (sp_ring_by K) [] E0 (tCons (tVar 0) (tCons (tCB (cListL K) (tCons (tVar 2) tNil)) (tCons (tVar 4) tNil)))) (gName 5))
  (tSeq (tAsg (tSl (rSlT K) (tDGet (tDGet (tVar 1) (tC (.str "ties"))) (tVar 4)) tNoPart (tPart (tC (.int 2)))) (gTup K 2 (gCons (gName 6) (gCons (gName 7) (gNil)))))
  (tSeq (tAsg (tCall (sp_law_gone K) [] E0 (tCons (tVar 1) (tCons (tSl (rSlL K) (tVar 5) (tPart (tC (.int 1))) tNoPart) (tCons (tVar 7) tNil)))) (gName 8))
  (tSeq (tIfS (tOr (tTest (tOp oIsN (tVar 8) (tC .non))) (tOr (tTest (tOp rNe (tOp (rIxL K) (tVar 8) (tUn (rU fun i => .int (-i)) (tC (.int 1)))) (tVar 6))) (tTest (tOp rNe (tOp (rIxL K) (tVar 5) (tC (.int 0))) (tVar 4))))) (tRet (tC .non)) tNext)
  (tAsg (tAndV (tVar 3) (tOp rEq (tOp oMod (tCB (cLenL K) (tCons (tVar 5) tNil)) (tC (.int 2))) (tC (.int 0)))) (gName 3)))))))
  (tRet (tVar 3)))
def t_law_way_row (K : PySem.W.Frag) : TS :=
  tSeq (tIfS (tB (tCB (rIsi K) (tCons (tVar 0) (tCons (tC (.ref (He.ga K "Way"))) tNil)))) (tRet (tTup (tCons (tC (.str "way")) (tCons (tCB (cListL K) (tCons (tFld K (tVar 0) "numbers") tNil)) tNil)))) tNext)
  (tRet (tTup (tCons (tC (.str "border")) (tCons (tCB (cListL K) (tCons (tFld K (tVar 0) "names") tNil)) tNil))))
def t_law_ways_good (K : PySem.W.Frag) : TS :=
  tSeq (tAsg (tDGet (tVar 1) (tC (.str "names"))) (gName 4))
  (tSeq (tIfS (tTest (tOp (rEqD K) (tVar 4) (tLst (tNil)))) (tRet (tC (.bl true))) tNext)
  (tSeq (tAsg (tOp (rIxL K) (tVar 4) (tOp oMod (tVar 3) (tCB (cLenL K) (tCons (tVar 4) tNil)))) (gName 5))
  (tSeq (tAsg (tCall (sp_web_of K) [] E0 (tCons (tCall (sp_law_turned K) [] E0 (tCons (tCall (sp_web_lines K) [] E0 (tCons (tVar 0) tNil)) (tCons (tVar 3) (tCons (tC (.int 1)) tNil)))) tNil)) (gName 6))
  (tSeq (tFor (iList K (tVar 4)) (gName 7) (tSeq (tAsg (tCall (sp_together K) [] E0 (tCons (tVar 0) (tCons (tVar 5) (tCons (tVar 7) tNil)))) (gName 8))
  (tSeq (tIfS (tTest (tOp (rNeD K) (tCall (sp_law_way_row K) [] E0 (tCons (tCall (sp_together K) [] E0 (tCons (tVar 6) (tCons (tVar 5) (tCons (tVar 7) tNil)))) tNil)) (tCall (sp_law_way_row K) [] E0 (tCons (tVar 8) tNil)))) (tRet (tC (.bl false))) tNext)
  (tSeq (tAsg (tOp (rNeD K) (tLc (iList K (tVar 2)) (gName 11) (tAnd (tTest (tOp (rIn K false) (tVar 5) (tVar 11))) (tTest (tOp (rIn K false) (tVar 7) (tVar 11)))) (tVar 11) [11]) (tLst (tNil))) (gName 9))
  (tSeq (tIfS (tTest (tOp rNe (tCB (rIsi K) (tCons (tVar 8) (tCons (tC (.ref (He.ga K "Way"))) tNil))) (tVar 9))) (tRet (tC (.bl false))) tNext)
  (tIfS (tB (tVar 9)) (tSeq (tAsg (tCall (sp_law_gone K) [] E0 (tCons (tVar 1) (tCons (tFld K (tVar 8) "numbers") (tCons (tVar 5) tNil)))) (gName 10))
  (tIfS (tOr (tTest (tOp oIsN (tVar 10) (tC .non))) (tTest (tOp rNe (tOp (rIxL K) (tVar 10) (tUn (rU fun i => .int (-i)) (tC (.int 1)))) (tVar 7)))) (tRet (tC (.bl false))) tNext)) tNext))))))
  (tRet (tC (.bl true)))))))
def t_law_good (K : PySem.W.Frag) : TS :=
  tSeq (tAsg (tCall (sp_pieces K) [] E0 (tCons (tVar 0) tNil)) (gName 4))
  (tSeq (tIfS (tTest (tOp (rNeD K) (tVar 4) (tCall (sp_law_pieces K) [] E0 (tCons (tVar 1) tNil)))) (tRet (tC (.bl false))) tNext)
  (tSeq (tAsg (tCall (sp_forest K) [] E0 (tCons (tVar 0) tNil)) (gName 5))
  (tSeq (tAsg (tCall (sp_law_trees K) [] E0 (tCons (tVar 1) (tCons (tVar 5) tNil))) (gName 6))
  (tSeq (tFor (iList K (tVar 4)) (gName 7) (tIfS (tTest (tOp rNe (tLenSetR K (tLc (iList K (tVar 7)) (gName 12) (tYes) (tDGet (tVar 6) (tVar 12)) [12])) (tC (.int 1)))) (tRet (tC (.bl false))) tNext))
  (tSeq (tAsg (tCall (sp_law_rings_even K) [] E0 (tCons (tVar 0) (tCons (tVar 1) (tCons (tVar 5) tNil)))) (gName 8))
  (tSeq (tAsg (tCall (sp_sides K) [] E0 (tCons (tVar 0) tNil)) (gName 9))
  (tSeq (tIfS (tOr (tTest (tOp oIsN (tVar 8) (tC .non))) (tTest (tOp rNe (tCB (rIsi K) (tCons (tVar 9) (tCons (tC (.ref (He.ga K "Sides"))) tNil))) (tVar 8)))) (tRet (tC (.bl false))) tNext)
  (tSeq (tIfS (tTest (tOp (rNeD K) (tCall (sp_forest K) [] E0 (tCons (tCall (sp_web_of K) [] E0 (tCons (tCall (sp_law_turned K) [] E0 (tCons (tCall (sp_web_lines K) [] E0 (tCons (tVar 0) tNil)) (tCons (tVar 2) (tCons (tC (.int 2)) tNil)))) tNil)) tNil)) (tVar 5))) (tRet (tC (.bl false))) tNext)
  (tSeq (tAsg (tCall (sp_web_of K) [] E0 (tCons (tCall (sp_law_turned K) [] E0 (tCons (tCall (sp_web_lines K) [] E0 (tCons (tVar 0) tNil)) (tCons (tVar 2) (tCons (tC (.int 0)) tNil)))) tNil)) (gName 10))
  (tSeq (tAsg (tCall (sp_sides K) [] E0 (tCons (tVar 10) tNil)) (gName 11))
  (tSeq (tIfS (tOr (tTest (tOp (rNeD K) (tCall (sp_pieces K) [] E0 (tCons (tVar 10) tNil)) (tVar 4))) (tTest (tOp rNe (tCB (rIsi K) (tCons (tVar 11) (tCons (tC (.ref (He.ga K "Sides"))) tNil))) (tVar 8)))) (tRet (tC (.bl false))) tNext)
  (tSeq (tIfS (tAnd (tB (tVar 8)) (tTest (tOp oNeDK (tFld K (tVar 11) "sides") (tFld K (tVar 9) "sides")))) (tRet (tC (.bl false))) tNext)
  (tSeq (tDrop (tBM K "list" rAppend (tVar 3) (tCons (tTup (tCons (tVar 4) (tCons (tCB (cReprD K) (tCons (tVar 4) tNil)) tNil))) tNil)))
  (tSeq (tDrop (tBM K "list" rAppend (tVar 3) (tCons (tTup (tCons (tVar 5) (tCons (tCB (cReprD K) (tCons (tVar 5) tNil)) tNil))) tNil)))
  (tRet (tCall (sp_law_ways_good K) [] E0 (tCons (tVar 0) (tCons (tVar 1) (tCons (tVar 4) (tCons (tVar 2) tNil))))))))))))))))))))
def t_law_filled (K : PySem.W.Frag) : TS :=
  tSeq (tAsg (tLc (iList K (tVar 2)) (gName 5) (tTest (tOp (rIn K true) (tVar 5) (tDGet (tVar 1) (tC (.str "names"))))) (tVar 5) [5]) (gName 4))
  (tSeq (tFor (iList K (tSl (rSlL K) (tVar 4) tNoPart (tPart (tOp oSub (tC (.int 16)) (tCB (cLenL K) (tCons (tDGet (tVar 1) (tC (.str "names"))) tNil)))))) (gName 5) (tSeq (tDrop (tMeth (He.ga K "Web") "put_point" (sp_Web_put_point K) [] E0 (tVar 0) (tCons (tVar 5) tNil)))
  (tDrop (tBM K "list" rAppend (tDGet (tVar 1) (tC (.str "names"))) (tCons (tVar 5) tNil)))))
  (tSeq (tFor (iRng1 (tCons (tOp oSub (tC (.int 48)) (tCB cLenD (tCons (tDGet (tVar 1) (tC (.str "ties"))) tNil))) tNil)) (gName 6) (tIfS (tNot (tB (tCall (sp_law_put_tie K) [] E0 (tCons (tVar 0) (tCons (tVar 1) (tCons (tOp oAdd (tVar 3) (tVar 6)) (tCons (tVar 6) tNil))))))) (tRet (tC (.bl false))) tNext))
  (tRet (tC (.bl true)))))
def t_law (K : PySem.W.Frag) : TS :=
  tSeq (tAsg (tSl (rSlL K) (tVar 0) tNoPart (tPart (tC (.int 63)))) (gName 1))
  (tSeq (tAsg (tCall (sp_law_pool K) [] E0 (tCons (tCB (rSum K) (tCons (tSl (rSlL K) (tVar 1) tNoPart (tPart (tC (.int 3)))) tNil)) tNil)) (gName 2))
  (tSeq (tAsg (tMake (He.ga K "Web") (sp_Web_init K) [] E0 tNil) (gName 3))
  (tSeq (tAsg (tCall (sp_law_none K) [] E0 tNil) (gName 4))
  (tSeq (tAsg (tLst (tNil)) (gName 5))
  (tSeq (tFor (iEnum K (tCons (tVar 1) tNil)) (gTup K 2 (gCons (gName 6) (gCons (gName 7) (gNil)))) (tSeq (tIfS (tNot (tB (tCall (sp_law_deed K) [] E0 (tCons (tVar 3) (tCons (tVar 4) (tCons (tVar 2) (tCons (tVar 7) (tCons (tVar 6) tNil)))))))) (tRet (tC (.bl false))) tNext)
  (tSeq (tAsg (tCall (sp_law_draw K) [] E0 (tCons (tVar 7) (tCons (tVar 6) (tCons (tC (.int 64)) tNil)))) (gName 8))
  (tSeq (tIfS (tAnd (tTest (tOp rEq (tOp oMod (tOp oDiv (tVar 8) (tC (.int 7))) (tC (.int 4))) (tC (.int 0)))) (tNot (tB (tCall (sp_law_good K) [] E0 (tCons (tVar 3) (tCons (tVar 4) (tCons (tVar 8) (tCons (tVar 5) tNil)))))))) (tRet (tC (.bl false))) tNext)
  (tIfS (tNot (tB (tCall (sp_law_stands K) [] E0 (tCons (tVar 3) (tCons (tVar 4) tNil))))) (tRet (tC (.bl false))) tNext)))))
  (tSeq (tAsg (tCall (sp_law_draw K) [] E0 (tCons (tCB (rSum K) (tCons (tSl (rSlL K) (tVar 1) tNoPart (tPart (tC (.int 2)))) tNil)) (tCons (tC (.int 3)) (tCons (tC (.int 66)) tNil)))) (gName 8))
  (tSeq (tIfS (tAnd (tTest (tOp rEq (tOp oMod (tVar 8) (tC (.int 4))) (tC (.int 1)))) (tNot (tB (tCall (sp_law_filled K) [] E0 (tCons (tVar 3) (tCons (tVar 4) (tCons (tVar 2) (tCons (tVar 8) tNil)))))))) (tRet (tC (.bl false))) tNext)
  (tSeq (tIfS (tNot (tB (tCall (sp_law_good K) [] E0 (tCons (tVar 3) (tCons (tVar 4) (tCons (tCall (sp_law_draw K) [] E0 (tCons (tCB (rSum K) (tCons (tSl (rSlL K) (tVar 1) tNoPart (tPart (tC (.int 5)))) tNil)) (tCons (tC (.int 6)) (tCons (tC (.int 65)) tNil)))) (tCons (tVar 5) tNil))))))) (tRet (tC (.bl false))) tNext)
  (tRet (tOp (rEqD K) (tLc (iList K (tVar 5)) (gName 9) (tTest (tOp rNe (tCB (cReprD K) (tCons (tOp (rIxT K) (tVar 9) (tC (.int 0))) tNil)) (tOp (rIxT K) (tVar 9) (tC (.int 1))))) (tVar 9) [9]) (tLst (tNil))))))))))))
end RB
set_option maxHeartbeats 4000000
/-! Readings, a step at a time. -/
namespace RB
open PySem PySem.Spec PyProof.Rows L2
section
variable {K : PySem.W.Frag} {σ : L2.St} {H : Hp} {Q : VK} {D : Ends} {ta tb tc td ty tx te to_ : TE} {t u : TT} {s1 s2 : TS} {a b : TA} {r : R2} {v x y : V} {i j : Nat} {g : TG}
theorem v_ret (h : te σ H D.rt) : tRet te D σ H := h
theorem v_retN (h : D.rt .non H) : tRetN D σ H := h
theorem v_drop (h : te σ H fun _ H1 => D.nx σ H1) : tDrop te D σ H := h
def dSeq (s : TS) (D : Ends) : Ends := { D with nx := s D }
theorem v_seq (h : s1 (dSeq s2 D) σ H) : tSeq s1 s2 D σ H := h
theorem n_seq (h : s2 D σ H) : (dSeq s2 D).nx σ H := h
theorem r_seq (h : D.rt v H) : (dSeq s2 D).rt v H := h
def D0 (Q : VK) : Ends := { nx := fun _ H' => Q .non H', rt := Q }
theorem n_0 (h : Q .non H) : (D0 Q).nx σ H := h
theorem r_0 (h : Q v H) : (D0 Q).rt v H := h
def dFor (N : L2.St → Hp → Prop) (D : Ends) : Ends := { D with nx := N, ct := N, bk := D.nx }
theorem n_for {N : L2.St → Hp → Prop} (h : N σ H) : (dFor N D).nx σ H := h
theorem r_for {N : L2.St → Hp → Prop} (h : D.rt v H) : (dFor N D).rt v H := h
theorem if_t {A B : Prop} (h : A) : if true = true then A else B := h
theorem if_f {A B : Prop} (h : B) : if false = true then A else B := h
theorem if_t' {A B : Prop} (h : B) : if (!true) = true then A else B := h
theorem if_f' {A B : Prop} (h : A) : if (!false) = true then A else B := h
theorem if_ng0 {b : Bool} {A B : Prop} (h : if b = true then A else B) : if (if false = true then !b else b) = true then A else B := h
theorem if_ng1 {b : Bool} {A B : Prop} (h : if (!b) = true then A else B) : if (if true = true then !b else b) = true then A else B := h
theorem if_d {p A B : Prop} [Decidable p] (ht : p → A) (hf : ¬ p → B) : if decide p = true then A else B := by
  by_cases c : p
  · rw [decide_eq_true c]; exact ht c
  · rw [decide_eq_false c]; exact hf c
theorem if_dT {p A B : Prop} [Decidable p] (c : p) (h : A) : if decide p = true then A else B := by rw [decide_eq_true c]; exact h
theorem if_dF {p A B : Prop} [Decidable p] (c : ¬ p) (h : B) : if decide p = true then A else B := by rw [decide_eq_false c]; exact h
theorem if_n {p A B : Prop} [Decidable p] (ht : ¬ p → A) (hf : p → B) : if (!decide p) = true then A else B := by
  by_cases c : p
  · rw [decide_eq_true c]; exact hf c
  · rw [decide_eq_false c]; exact ht c
theorem if_nT {p A B : Prop} [Decidable p] (c : ¬ p) (h : A) : if (!decide p) = true then A else B := by rw [decide_eq_false c]; exact h
theorem if_nF {p A B : Prop} [Decidable p] (c : p) (h : B) : if (!decide p) = true then A else B := by rw [decide_eq_true c]; exact h
theorem if_bT {b : Bool} {A B : Prop} (c : b = true) (h : A) : if b = true then A else B := by rw [c]; exact h
theorem if_bF {b : Bool} {A B : Prop} (c : b = false) (h : B) : if b = true then A else B := by rw [c]; exact h
theorem al {o : HO} (h : ∀ p H', H p = none → Same H H' → H' p = some o → Q (.ref p) H') : ∀ p, H p = none → Q (.ref p) (upd H p o) := fun p np => h p _ np (same_new np) upd_same
theorem v_next (h : D.nx σ H) : tNext D σ H := h
theorem v_ifs (h : t σ H fun b H1 => if b = true then s1 D σ H1 else s2 D σ H1) : tIfS t s1 s2 D σ H := h
theorem v_asg (h : te σ H fun x H1 => g x σ H1 D.nx) : tAsg te g D σ H := h
theorem v_name {N : L2.St → Hp → Prop} (h : N (σ.set i (some v)) H) : gName i v σ H N := h
theorem v_nameE {N : L2.St → Hp → Prop} {σ' : L2.St} (e : σ.set i (some v) = σ') (h : N σ' H) : gName i v σ H N := by subst e; exact h
theorem v_sub {N : L2.St → Hp → Prop} {ts : TSet} (h : ta σ H fun o H1 => tb σ H1 fun i H2 => ts o i v H2 fun H3 => N σ H3) : gSub ta tb ts v σ H N := h
theorem v_var (h : σ[i]? = some (some v)) (q : Q v H) : tVar i σ H Q := ⟨v, h, q⟩
theorem v_c (h : Q v H) : tC v σ H Q := h
theorem v_op (h : ta σ H fun x H1 => tb σ H1 fun y H2 => r x y H2 Q) : tOp r ta tb σ H Q := h
theorem v_un {r : V → Hp → VK → Prop} (h : ta σ H fun x H1 => r x H1 Q) : tUn r ta σ H Q := h
theorem v_if (h : t σ H fun c H1 => if c = true then ta σ H1 Q else tb σ H1 Q) : tIf t ta tb σ H Q := h
def IsBl (x : V) (H : Hp) (q : Bool → Hp → Prop) : Prop := ∃ k, x = .bl k ∧ q k H
theorem v_bl {c : Bool} {q : Bool → Hp → Prop} (h : q c H) : IsBl (.bl c) H q := ⟨c, rfl, h⟩
theorem v_test {q : Bool → Hp → Prop} (h : te σ H fun x H1 => IsBl x H1 q) : tTest te σ H q := h
theorem v_tb {q : Bool → Hp → Prop} (h : te σ H fun x H1 => IsBl x H1 q) : tB te σ H q := h
theorem v_and {q : Bool → Hp → Prop} (h : t σ H fun c H1 => if c = true then u σ H1 q else q false H1) : tAnd t u σ H q := h
theorem v_or {q : Bool → Hp → Prop} (h : t σ H fun c H1 => if c = true then q true H1 else u σ H1 q) : tOr t u σ H q := h
theorem v_not {q : Bool → Hp → Prop} (h : t σ H fun c H1 => q (!c) H1) : tNot t σ H q := h
theorem v_andV (h : ta σ H fun x H1 => IsBl x H1 fun c H1 => if c = true then tb σ H1 Q else Q (.bl false) H1) : tAndV ta tb σ H Q := h
theorem v_orV (h : ta σ H fun x H1 => IsBl x H1 fun c H1 => if c = true then Q (.bl true) H1 else tb σ H1 Q) : tOrV ta tb σ H Q := h
theorem v_notV (h : ta σ H fun x H1 => IsBl x H1 fun c H1 => Q (.bl (!c)) H1) : tNotV ta σ H Q := h
theorem v_cb {c : CK} (h : a σ H fun vs H1 => c vs H1 Q) : tCB c a σ H Q := h
theorem v_nil {q : List V → Hp → Prop} (h : q [] H) : tNil σ H q := h
theorem v_cons {q : List V → Hp → Prop} (h : ta σ H fun x H1 => a σ H1 fun xs H2 => q (x :: xs) H2) : tCons ta a σ H q := h
theorem v_call {sp : Sp} {dvs : List V} {E : XK} (h : a σ H fun vs H1 => sp (vs ++ dvs) H1 Q E) : tCall sp dvs E a σ H Q := h
def MkR (C : Addr) (sp : Sp) (vs : List V) (E : XK) (H : Hp) (Q : VK) : Prop := ∀ x dx, H x = none → H dx = none → dx ≠ x → sp (.ref x :: vs) (upd (upd H dx (.own x)) x (.ins C dx [])) (fun v H2 => v = .non ∧ Q (.ref x) H2) E
theorem v_make {C : Addr} {sp : Sp} {dvs : List V} {E : XK} (h : a σ H fun vs H1 => MkR C sp (vs ++ dvs) E H1 Q) : tMake C sp dvs E a σ H Q := h
def MethR (C : Addr) (m : Str) (x : V) (H : Hp) (q : Prop) : Prop := ∃ a dx fs, x = .ref a ∧ H a = some (.ins C dx fs) ∧ fs.lookup m = none ∧ q
theorem v_meth {C : Addr} {m : Str} {sp : Sp} {dvs : List V} {E : XK} (h : ta σ H fun x H1 => MethR C m x H1 (a σ H1 fun vs H2 => sp (x :: (vs ++ dvs)) H2 Q E)) : tMeth C m sp dvs E ta a σ H Q := h
def FldR (K : PySem.W.Frag) (f : Str) (x : V) (H : Hp) (Q : VK) : Prop := ∃ a C dx fs v, x = .ref a ∧ H a = some (.ins C dx fs) ∧ Cls K C ∧ NoAttr K C f ∧ fs.lookup f = some v ∧ Q v H
theorem v_fld {f : Str} (h : ta σ H fun x H1 => FldR K f x H1 Q) : tFld K ta f σ H Q := h
def NewR (mk : List V → HO) (xs : List V) (H : Hp) (Q : VK) : Prop := xs.length ≤ sizeLine ∧ ∀ p, H p = none → Q (.ref p) (upd H p (mk xs))
theorem v_tup (h : a σ H fun xs H1 => NewR HO.tup xs H1 Q) : tTup a σ H Q := h
theorem v_lst (h : a σ H fun xs H1 => NewR HO.lst xs H1 Q) : tLst a σ H Q := h
theorem v_dnew (h : ∀ p H', H p = none → Same H H' → H' p = some (.dK []) → Q (.ref p) H') : tDNewK σ H Q := al h
def GetR (x y : V) (H : Hp) (Q : VK) : Prop := ∃ a v, x = .ref a ∧ DGet H a y (some v) ∧ Q v H
theorem v_dget (h : td σ H fun x H1 => ty σ H1 fun y H2 => GetR x y H2 Q) : tDGet td ty σ H Q := h
def InR (neg : Bool) (y x : V) (H : Hp) (Q : VK) : Prop := ∃ a o, x = .ref a ∧ DGet H a y o ∧ Q (.bl (if neg then !o.isSome else o.isSome)) H
theorem v_din (h : ty σ H fun y H1 => td σ H1 fun x H2 => InR false y x H2 Q) : tDIn ty td σ H Q := h
theorem v_dnotin (h : ty σ H fun y H1 => td σ H1 fun x H2 => InR true y x H2 Q) : tDNotIn ty td σ H Q := h
theorem get_k {kvs : List (Key × V)} {k : Key} {p : Addr} (h : Rd H p (.dK kvs)) (e : valV kvs k = some v) (q : Q v H) : GetR (.ref p) (kV k) H Q := ⟨p, v, rfl, .inl ⟨kvs, k, h, rfl, e.symm⟩, q⟩
theorem in_k {kvs : List (Key × V)} {k : Key} {p : Addr} {neg : Bool} (h : Rd H p (.dK kvs)) (q : Q (.bl (if neg then !(valV kvs k).isSome else (valV kvs k).isSome)) H) : InR neg (kV k) (.ref p) H Q := ⟨p, _, rfl, .inl ⟨kvs, k, h, rfl, rfl⟩, q⟩
def PutR (v x y : V) (H : Hp) (q : Hp → Prop) : Prop := ∃ a H4, x = .ref a ∧ DPut H a y v H4 ∧ q H4
theorem v_dput (h : te σ H fun v H1 => td σ H1 fun x H2 => ty σ H2 fun y H3 => PutR v x y H3 fun H4 => D.nx σ H4) : sDPut td ty te D σ H := h
theorem put_k {kvs : List (Key × V)} {k : Key} {p : Addr} {q : Hp → Prop} (h : H p = some (.dK kvs)) (l : kvs.length ≤ 100000) (z : q (upd H p (.dK (putK kvs k v)))) : PutR v (.ref p) (kV k) H q := ⟨p, _, rfl, DPut.k h (sz' l), z⟩
def SetF (K : PySem.W.Frag) (f : Str) (y x : V) (H : Hp) (q : Hp → Prop) : Prop := ∃ a C dx fs, x = .ref a ∧ H a = some (.ins C dx fs) ∧ Cls K C ∧ NoAttr K C f ∧ fs.length < 1000 ∧ q (upd H a (.ins C dx (putF f y fs)))
theorem v_sfld {f : Str} (h : te σ H fun y H1 => ta σ H1 fun x H2 => SetF K f y x H2 fun H3 => D.nx σ H3) : sFld K ta te f D σ H := h
def BmR (K : PySem.W.Frag) (T : String) (x : V) (H : Hp) (q : Prop) : Prop := tyV K T x H ∧ q
theorem v_bm {T : String} {m : MK'} (h : ta σ H fun x H1 => BmR K T x H1 (a σ H1 fun xs H2 => m x xs H2 Q)) : tBM K T m ta a σ H Q := h
theorem v_bm0 {T : String} {m : MK'} (h : ta σ H fun x H1 => BmR K T x H1 (m x [] H1 Q)) : tBM0 K T m ta σ H Q := h
theorem bm_l {p : Addr} {xs : List V} {q : Prop} (h : H p = some (.lst xs)) (z : q) : BmR K "list" (.ref p) H q := ⟨.inl ⟨rfl, _, .inl (.inl h)⟩, z⟩
theorem app_l {p : Addr} {xs : List V} (h : H p = some (.lst xs)) (l : xs.length ≤ 100000) (q : Q .non (upd H p (.lst (xs ++ [y])))) : rAppend (.ref p) [y] H Q := ⟨p, xs, y, rfl, rfl, h, sz' l, q⟩
def M1R (x : V) (q : Prop) : Prop := (∃ a, x = .str a) ∧ q
theorem v_m1 {m : MK'} (h : ta σ H fun x H1 => M1R x (te σ H1 fun y H2 => m x [y] H2 Q)) : tM1 m ta te σ H Q := h
theorem m1_s {z : Str} {q : Prop} (h : q) : M1R (.str z) q := ⟨⟨z, rfl⟩, h⟩
theorem v_chain {r' : R2} (h : ta σ H fun x H1 => tb σ H1 fun y H2 => r x y H2 fun z H3 => IsBl z H3 fun k H3 => if k = true then tc σ H3 fun w H4 => r' y w H4 Q else Q (.bl false) H3) : tChain r r' ta tb tc σ H Q := h
def Two (vs : List V) (q : V → V → Prop) : Prop := ∃ v w, vs = [v, w] ∧ q v w
theorem v_two {q : V → V → Prop} (h : q x y) : Two [x, y] q := ⟨x, y, rfl, h⟩
theorem v_par (h : a σ H fun vs H1 => Two vs fun v w => D.nx ((σ.set i (some v)).set j (some w)) H1) : tPar i j a D σ H := h
theorem v_for {w : TI} (h : w σ H fun J H1 => ForW J g s1 D σ H1) : tFor w g s1 D σ H := h
def LcK (J : It) (g : TG) (tt : TT) (te : TE) (vs : List Nat) (σ : L2.St) (H1 : Hp) (Q : VK) : Prop := ∀ d, H1 d = none → LcW J g tt te vs σ H1 d (Q (.ref d))
theorem v_lc {w : TI} {vs : List Nat} (h : w σ H fun J H1 => LcK J g t te vs σ H1 Q) : tLc w g t te vs σ H Q := h
def ItL (K : PySem.W.Frag) (x : V) (H : Hp) (R : It → Hp → Prop) : Prop := ∃ a, x = .ref a ∧ (∃ xs, SqL K H a xs) ∧ R (Itl K a) H
theorem i_list {R : It → Hp → Prop} (h : te σ H fun x H1 => ItL K x H1 R) : iList K te σ H R := h
def ItT (K : PySem.W.Frag) (x : V) (H : Hp) (R : It → Hp → Prop) : Prop := ∃ a, x = .ref a ∧ (∃ xs, SqT K H a xs) ∧ R (Itt K a) H
theorem i_tup {R : It → Hp → Prop} (h : te σ H fun x H1 => ItT K x H1 R) : iTup K te σ H R := h
def ItS (x : V) (H : Hp) (R : It → Hp → Prop) : Prop := ∃ z, x = .str z ∧ R (Its z) H
theorem i_str {R : It → Hp → Prop} (h : te σ H fun x H1 => ItS x H1 R) : iStr te σ H R := h
def ItR (vs : List V) (H : Hp) (R : It → Hp → Prop) : Prop := ∃ j : Int, vs = [.int j] ∧ -(2 ^ 62) ≤ j ∧ j < 2 ^ 62 ∧ R (Itr 0 j.toNat) H
theorem i_rng {R : It → Hp → Prop} (h : a σ H fun vs H1 => ItR vs H1 R) : iRng1 a σ H R := h
def ItE (K : PySem.W.Frag) (vs : List V) (H : Hp) (R : It → Hp → Prop) : Prop := ∃ a xs, vs = [.ref a] ∧ SqL K H a xs ∧ R (Ite K a) H
theorem i_enum {R : It → Hp → Prop} (h : a σ H fun vs H1 => ItE K vs H1 R) : iEnum K a σ H R := h
def CompK (tt : TT) (te : TE) (vs : List Nat) (σ : L2.St) (N : Option V → Hp → Prop) (σ2 : L2.St) (H2 : Hp) : Prop :=
  wipe σ2 vs = wipe σ vs ∧ tt σ2 H2 fun b H3 => if b = true then te σ2 H3 fun y H4 => N (some y) H4 else N none H3
theorem k_comp {vs : List Nat} {N : Option V → Hp → Prop} {σ2 : L2.St} (e : wipe σ2 vs = wipe σ vs) (h : t σ2 H fun b H3 => if b = true then te σ2 H3 fun y H4 => N (some y) H4 else N none H3) : CompK t te vs σ N σ2 H := ⟨e, h⟩
theorem v_turn {vs : List Nat} {N : Option V → Hp → Prop} (h : g x (wipe σ vs) H (CompK t te vs σ N)) : Turn g t te vs σ x H N := h
theorem v_turnE {vs : List Nat} {N : Option V → Hp → Prop} {σ' : L2.St} (e : wipe σ vs = σ') (h : g x σ' H (CompK t te vs σ N)) : Turn g t te vs σ x H N := by subst e; exact h
theorem v_parE {σ' : L2.St} {f : V → V → L2.St} (e : ∀ v w, (σ.set i (some v)).set j (some w) = f v w) (h : a σ H fun vs H1 => Two vs fun v w => D.nx (f v w) H1) : tPar i j a D σ H := by
  have : f = fun v w => (σ.set i (some v)).set j (some w) := by funext v w; exact (e v w).symm
  subst this
  exact h
theorem v_yes {q : Bool → Hp → Prop} (h : q true H) : tYes σ H q := h
theorem g_tup {u : TGs} {p : Addr} {xs : List V} {n : Nat} {N : L2.St → Hp → Prop} (h : H p = some (.tup xs)) (e : xs.length = n) (q : u xs σ H N) : gTup K n u (.ref p) σ H N := ⟨p, xs, rfl, .inl (.inl h), e, q⟩
theorem g_unl {u : TGs} {p : Addr} {xs : List V} {n : Nat} {N : L2.St → Hp → Prop} (h : H p = some (.lst xs)) (e : xs.length = n) (q : u xs σ H N) : gUnl K n u (.ref p) σ H N := ⟨p, xs, rfl, .inl (.inl h), e, q⟩
theorem g_cons {u : TGs} {xs : List V} {N : L2.St → Hp → Prop} (q : g x σ H fun σ' H' => u xs σ' H' N) : gCons g u (x :: xs) σ H N := ⟨x, xs, rfl, q⟩
theorem g_nil {N : L2.St → Hp → Prop} (q : N σ H) : gNil [] σ H N := ⟨rfl, q⟩
/-! loops, told so -/
theorem f_list {p : Addr} {β : Type} (ys : List β) (enc : β → V) (P : List β → L2.St → Hp → Prop) (hx : SqL K H p (ys.map enc)) (h0 : P [] σ H)
    (keep : ∀ done rest σ' H', ys = done ++ rest → P done σ' H' → SqL K H' p (ys.map enc))
    (turn : ∀ done y rest σ' H', ys = done ++ y :: rest → P done σ' H' → g (enc y) σ' H' fun σ2 H2 => s1 (dFor (P (done ++ [y])) D) σ2 H2)
    (fin : ∀ σ' H', P ys σ' H' → D.nx σ' H') : ItL K (.ref p) H fun J H1 => ForW J g s1 D σ H1 := forL ys enc hx P h0 keep turn fin
theorem f_rng {n : Nat} {z : Int} (P : Nat → L2.St → Hp → Prop) (e : z = n) (hn : n ≤ 100000) (h0 : P 0 σ H) (turn : ∀ i σ' H', i < n → P i σ' H' → g (.int (i : Int)) σ' H' fun σ2 H2 => s1 (dFor (P (i + 1)) D) σ2 H2)
    (fin : ∀ σ' H', P n σ' H' → D.nx σ' H') : ItR [.int z] H fun J H1 => ForW J g s1 D σ H1 := by
  subst e
  exact ⟨n, rfl, by omega, by omega, forR P h0 turn fin⟩
theorem l_list {p : Addr} {β : Type} {vs : List Nat} (ys : List β) (enc : β → V) (f : β → Option V) (hx : SqL K H p (ys.map enc)) (hn : ys.length ≤ 100000)
    (turn : ∀ y ∈ ys, ∀ H', Same H H' → ∀ N : Option V → Hp → Prop, (∀ H3, Same H' H3 → N (f y) H3) → Turn g t te vs σ (enc y) H' N)
    (fin : ∀ d H', H d = none → Same H H' → H' d = some (.lst (ys.filterMap f)) → Q (.ref d) H') : ItL K (.ref p) H fun J H1 => LcK J g t te vs σ H1 Q :=
  lcL (te' := te) (Qv := Q) ys enc hx f hn turn fin
theorem l_listR {p : Addr} {β : Type} {vs : List Nat} (ys : List β) (enc : β → V) (R : β → Addr → Hp → Prop) (hx : SqL K H p (ys.map enc)) (hn : ys.length ≤ 100000) (mono : ∀ y q A B, Same A B → R y q A → R y q B)
    (turn : ∀ y ∈ ys, ∀ H', Same H H' → ∀ N : Option V → Hp → Prop, (∀ q H3, H' q = none → Same H' H3 → (∀ d, q ≠ d → H' d ≠ none → R y q (del H3 d)) → N (some (.ref q)) H3) → Turn g t te vs σ (enc y) H' N)
    (fin : ∀ d (zs : List (Addr × β)) H', H d = none → Same H H' → zs.map (·.2) = ys → H' d = some (.lst (zs.map fun z => .ref z.1)) → (∀ z ∈ zs, H z.1 = none ∧ R z.2 z.1 H') → Q (.ref d) H') :
    ItL K (.ref p) H fun J H1 => LcK J g t te vs σ H1 Q :=
  lcLR (Qv := Q) ys enc hx hn R mono turn fin
theorem v_slice {m : V → Option Int → Option Int → Hp → VK → Prop} {tl th : TO} (h : te σ H fun x H1 => tl σ H1 fun l H2 => th σ H2 fun u H3 => m x l u H3 Q) : L2.tSl m te tl th σ H Q := h
def PartR (x : V) (H : Hp) (q : Option Int → Hp → Prop) : Prop := ∃ i, x = .int i ∧ q (some i) H
theorem v_part {q : Option Int → Hp → Prop} (h : te σ H fun x H1 => PartR x H1 q) : tPart te σ H q := h
theorem v_nopart {q : Option Int → Hp → Prop} (h : q none H) : tNoPart σ H q := h
theorem part_i {q : Option Int → Hp → Prop} {n : Int} (h : q (some n) H) : PartR (.int n) H q := ⟨n, rfl, h⟩
/-! operators -/
theorem o_add {m n : Int} (q : Q (.int (m + n)) H) : oAdd (.int m) (.int n) H Q := ⟨m, n, rfl, rfl, q⟩
theorem o_sub {m n : Int} (q : Q (.int (m - n)) H) : oSub (.int m) (.int n) H Q := ⟨m, n, rfl, rfl, q⟩
theorem o_lt {m n : Int} (q : Q (.bl (decide (m < n))) H) : oLt (.int m) (.int n) H Q := ⟨m, n, rfl, rfl, q⟩
theorem o_le {m n : Int} (q : Q (.bl (decide (m ≤ n))) H) : oLe (.int m) (.int n) H Q := ⟨m, n, rfl, rfl, q⟩
theorem o_gt {m n : Int} (q : Q (.bl (decide (n < m))) H) : oGt (.int m) (.int n) H Q := ⟨m, n, rfl, rfl, q⟩
theorem o_ge {m n : Int} (q : Q (.bl (decide (n ≤ m))) H) : oGe (.int m) (.int n) H Q := ⟨m, n, rfl, rfl, q⟩
theorem o_eqI {m n : Int} (q : Q (.bl (decide (m = n))) H) : rEq (.int m) (.int n) H Q := ⟨rfl, by
  have e : decide (V.int m = V.int n) = decide (m = n) := by rw [dec_int, Bool.beq_eq_decide_eq]
  rw [e]; exact q⟩
theorem o_eqS {m n : Str} (q : Q (.bl (decide (m = n))) H) : rEq (.str m) (.str n) H Q := ⟨rfl, by
  have e : decide (V.str m = V.str n) = decide (m = n) := by rw [dec_str, Bool.beq_eq_decide_eq]
  rw [e]; exact q⟩
theorem o_neI {m n : Int} (q : Q (.bl (!decide (m = n))) H) : rNe (.int m) (.int n) H Q := ⟨rfl, by
  have e : decide (V.int m = V.int n) = decide (m = n) := by rw [dec_int, Bool.beq_eq_decide_eq]
  rw [e]; exact q⟩
theorem o_neS {m n : Str} (q : Q (.bl (!decide (m = n))) H) : rNe (.str m) (.str n) H Q := ⟨rfl, by
  have e : decide (V.str m = V.str n) = decide (m = n) := by rw [dec_str, Bool.beq_eq_decide_eq]
  rw [e]; exact q⟩
theorem o_neB {m n : Bool} (q : Q (.bl (!decide (m = n))) H) : rNe (.bl m) (.bl n) H Q := ⟨rfl, by
  have e : decide (V.bl m = V.bl n) = decide (m = n) := by rw [dec_bl, Bool.beq_eq_decide_eq]
  rw [e]; exact q⟩
theorem o_isN (q : Q (.bl (decide (x = .non))) H) : oIsN x .non H Q := ⟨rfl, q⟩
theorem o_notN (q : Q (.bl (!decide (x = .non))) H) : oNotN x .non H Q := ⟨rfl, q⟩
theorem o_addS {m n : Str} (l : m.length + n.length ≤ 100000) (q : Q (.str (m ++ n)) H) : oAddS (.str m) (.str n) H Q := ⟨m, n, rfl, rfl, sz l, q⟩
theorem o_mod {m n : Int} (h : 0 < n) (q : Q (.int (m % n)) H) : oMod (.int m) (.int n) H Q := ⟨m, n, rfl, rfl, h, q⟩
theorem o_div {m n : Int} (h : 0 < n) (h2 : n < 2 ^ 64) (q : Q (.int (m / n)) H) : oDiv (.int m) (.int n) H Q := ⟨m, n, rfl, rfl, wide_div (b := 64) h (by omega) (by decide) (by decide), q⟩
theorem o_mul {m n : Int} (h : -(2 ^ 64) < m) (h2 : m < 2 ^ 64) (q : Q (.int (m * n)) H) : oMul (.int m) (.int n) H Q := ⟨m, n, rfl, rfl, .inl ⟨h, h2⟩, q⟩
/-! calls -/
theorem isi_int {i : Int} (q : Q (.bl true) H) : rIsi K [.int i, .ty "int"] H Q := ⟨_, _, _, _, true, rfl, .ty _, .base (.int _), kit_ty (by decide +kernel), q⟩
theorem isi_int_bool {i : Int} (q : Q (.bl false) H) : rIsi K [.int i, .ty "bool"] H Q := ⟨_, _, _, _, false, rfl, .ty _, .base (.int _), kit_ty (by decide +kernel), q⟩
theorem isi_bool {b : Bool} (q : Q (.bl true) H) : rIsi K [.bl b, .ty "bool"] H Q := ⟨_, _, _, _, true, rfl, .ty _, .base (.bl _), kit_ty (by decide +kernel), q⟩
theorem isi_str {x : Str} (q : Q (.bl true) H) : rIsi K [.str x, .ty "str"] H Q := ⟨_, _, _, _, true, rfl, .ty _, .base (.str _), kit_ty (by decide +kernel), q⟩
theorem isi_list {a : Addr} {xs : List V} (h : H a = some (.lst xs)) (q : Q (.bl true) H) : rIsi K [.ref a, .ty "list"] H Q := ⟨_, _, _, _, true, rfl, .ty _, .base (.lst h), kit_ty (by decide +kernel), q⟩
theorem len_l {p : Addr} {xs : List V} (h : H p = some (.lst xs)) (q : Q (.int xs.length) H) : cLenL K [.ref p] H Q := ⟨p, xs, rfl, .inl (.inl (.inl h)), q⟩
theorem len_s {z : Str} (l : z.length ≤ 100000) (q : Q (.int z.length) H) : cLenS [.str z] H Q := ⟨z, rfl, sz l, q⟩
theorem len_d {p : Addr} {kvs : List (Key × V)} (h : H p = some (.dK kvs)) (q : Q (.int kvs.length) H) : cLenD [.ref p] H Q := ⟨p, kvs, rfl, h, q⟩
theorem list_l {p : Addr} {xs : List V} (h : H p = some (.lst xs)) (q : ∀ l H', H l = none → Same H H' → H' l = some (.lst xs) → Q (.ref l) H') : cListL K [.ref p] H Q := ⟨p, xs, rfl, .inl (.inl (.inl h)), al q⟩
theorem new_l {mk : List V → HO} {xs : List V} (l : xs.length ≤ 100000) (q : ∀ p H', H p = none → Same H H' → H' p = some (mk xs) → Q (.ref p) H') : NewR mk xs H Q := ⟨sz l, al q⟩
theorem al_s {ys : List Str} (h : ∀ p H', H p = none → Same H H' → H' p = some (.lst (ys.map V.str)) → Q (.ref p) H') : rNewStrs ys H Q := al h
theorem list_d {p : Addr} {kvs : List (Key × V)} (h : H p = some (.dK kvs)) (q : ∀ l H', H l = none → Same H H' → H' l = some (.lst (kvs.map fun kv => kV kv.1)) → Q (.ref l) H') : cListD [.ref p] H Q := ⟨p, kvs, rfl, .inl h, al q⟩
theorem dict_d {p : Addr} {kvs : List (Key × V)} (h : H p = some (.dK kvs)) (q : ∀ l H', H l = none → Same H H' → H' l = some (.dK kvs) → Q (.ref l) H') : cDictD [.ref p] H Q := ⟨p, kvs, rfl, .inl h, al q⟩
theorem cat_l {p q : Addr} {xs zs : List V} (h : H p = some (.lst xs)) (h2 : H q = some (.lst zs)) (l : xs.length + zs.length ≤ 100000) (k : ∀ l H', H l = none → Same H H' → H' l = some (.lst (xs ++ zs)) → Q (.ref l) H') : rCat (.ref p) (.ref q) H Q := ⟨p, q, xs, zs, rfl, rfl, h, h2, sz l, al k⟩
theorem sl_l {p : Addr} {xs : List V} {lo hi : Option Int} (h : SqL K H p xs) (k : ∀ l H', H l = none → Same H H' → H' l = some (.lst (cutV xs lo hi)) → Q (.ref l) H') : rSlL K (.ref p) lo hi H Q := ⟨p, xs, rfl, h, al k⟩
theorem sl_t {p : Addr} {xs : List V} {lo hi : Option Int} (h : H p = some (.tup xs)) (n : ¬ (HT.sIx xs.length 0 lo = 0 ∧ HT.sIx xs.length xs.length hi = xs.length)) (k : ∀ l H', H l = none → Same H H' → H' l = some (.tup (cutV xs lo hi)) → Q (.ref l) H') : rSlT K (.ref p) lo hi H Q := ⟨p, xs, rfl, .inl (.inl h), n, al k⟩
theorem in_l {p : Addr} {xs : List V} {neg : Bool} (h : H p = some (.lst xs)) (f1 : flatV x = true) (f2 : xs.all flatV = true) (q : Q (.bl (if neg then !inV x xs else inV x xs)) H) : rIn K neg x (.ref p) H Q := ⟨p, xs, rfl, .inl (.inl (.inl h)), f1, f2, q⟩
theorem in_t {p : Addr} {xs : List V} {neg : Bool} (h : H p = some (.tup xs)) (f1 : flatV x = true) (f2 : xs.all flatV = true) (q : Q (.bl (if neg then !inV x xs else inV x xs)) H) : rIn K neg x (.ref p) H Q := ⟨p, xs, rfl, .inr (.inl (.inl h)), f1, f2, q⟩
theorem flat_str (l : List Str) : (l.map V.str).all flatV = true := by simp [List.all_map, Function.comp_def, flatV]
theorem flat_int (l : List Int) : (l.map V.int).all flatV = true := by simp [List.all_map, Function.comp_def, flatV]
theorem inV_str (z : Str) (l : List Str) : inV (.str z) (l.map V.str) = decide (z ∈ l) := by
  unfold inV
  rw [List.any_map, Bool.eq_iff_iff]
  simp [eqV, Function.comp_def]
theorem inV_int (z : Int) (l : List Int) : inV (.int z) (l.map V.int) = decide (z ∈ l) := by
  unfold inV
  rw [List.any_map, Bool.eq_iff_iff]
  simp [eqV, Function.comp_def]
/-- an index that is not negative -/
theorem ix_l {p : Addr} {xs : List V} {n : Nat} (h : H p = some (.lst xs)) (e : xs[n]? = some v) (q : Q v H) : rIxL K (.ref p) (.int n) H Q := ⟨p, xs, _, v, rfl, rfl, .inl (.inl h), by rw [atI_nat]; exact e, q⟩
theorem ix_t {p : Addr} {xs : List V} {n : Nat} (h : H p = some (.tup xs)) (e : xs[n]? = some v) (q : Q v H) : rIxT K (.ref p) (.int n) H Q := ⟨p, xs, _, v, rfl, rfl, .inl (.inl h), by rw [atI_nat]; exact e, q⟩
/-! ties, webs -/
variable {w : World} {mg : Str → Option Value} {p : Addr} {z : Tr}
theorem fld_num (T : Tx w K mg) (h : TieAt K H p z) (q : Q (.int z.num) H) : FldR K "number" (.ref p) H Q := let ⟨dx, h⟩ := h; ⟨p, _, dx, _, _, rfl, h, T.c_Tie, T.n_Tie_number, rfl, q⟩
theorem fld_tl (T : Tx w K mg) (h : TieAt K H p z) (q : Q (.str z.tl) H) : FldR K "tail" (.ref p) H Q := let ⟨dx, h⟩ := h; ⟨p, _, dx, _, _, rfl, h, T.c_Tie, T.n_Tie_tail, rfl, q⟩
theorem fld_hd (T : Tx w K mg) (h : TieAt K H p z) (q : Q (.str z.hd) H) : FldR K "head" (.ref p) H Q := let ⟨dx, h⟩ := h; ⟨p, _, dx, _, _, rfl, h, T.c_Tie, T.n_Tie_head, rfl, q⟩
theorem fld_load (T : Tx w K mg) (h : TieAt K H p z) (q : Q (.int z.load) H) : FldR K "load" (.ref p) H Q := let ⟨dx, h⟩ := h; ⟨p, _, dx, _, _, rfl, h, T.c_Tie, T.n_Tie_load, rfl, q⟩
theorem fld_ow (T : Tx w K mg) (h : TieAt K H p z) (q : Q (.bl z.ow) H) : FldR K "is_oneway" (.ref p) H Q := let ⟨dx, h⟩ := h; ⟨p, _, dx, _, _, rfl, h, T.c_Tie, T.n_Tie_is_oneway, rfl, q⟩
variable {lc ld : Addr} {W : Wr}
theorem fld_crowd (T : Tx w K mg) (h : WebAt K H p lc ld W) (q : Q (.ref lc) H) : FldR K "crowd" (.ref p) H Q := let ⟨dx, h⟩ := h.ob; ⟨p, _, dx, _, _, rfl, h, T.c_Web, T.n_Web_crowd, rfl, q⟩
theorem fld_tied (T : Tx w K mg) (h : WebAt K H p lc ld W) (q : Q (.ref ld) H) : FldR K "tied" (.ref p) H Q := let ⟨dx, h⟩ := h.ob; ⟨p, _, dx, _, _, rfl, h, T.c_Web, T.n_Web_tied, rfl, q⟩
theorem fld_given (T : Tx w K mg) (h : WebAt K H p lc ld W) (q : Q (.int W.given) H) : FldR K "last_given" (.ref p) H Q := let ⟨dx, h⟩ := h.ob; ⟨p, _, dx, _, _, rfl, h, T.c_Web, T.n_Web_last_given, rfl, q⟩
/-- a method of a web -/
theorem m_web {m : Str} {q : Prop} (h : WebAt K H p lc ld W) (q1 : q) (hm : ∀ lc ld g, (webF lc ld g).lookup m = none) : MethR (He.ga K "Web") m (.ref p) H q := let ⟨dx, h⟩ := h.ob; ⟨p, dx, _, rfl, h, hm _ _ _, q1⟩
/-! ### what stands stays -/
theorem TieAt.up {H' : Hp} (h : TieAt K H p z) (s : Same H H') : TieAt K H' p z := let ⟨dx, h⟩ := h; ⟨dx, s _ _ h⟩
theorem TiesL.up {H' : Hp} {ts : List Tr} (h : TiesL K H p ts) (s : Same H H') : TiesL K H' p ts := let ⟨ys, h1, h2, h3⟩ := h; ⟨ys, h1, s _ _ h2, fun y hy => (h3 y hy).up s⟩
theorem WebAt.up {H' : Hp} (h : WebAt K H p lc ld W) (s : Same H H') : WebAt K H' p lc ld W := ⟨let ⟨dx, h⟩ := h.ob; ⟨dx, s _ _ h⟩, s _ _ h.cr, let ⟨ys, h1, h2, h3⟩ := h.td; ⟨ys, h1, s _ _ h2, fun y hy => (h3 y hy).up s⟩⟩
theorem PrL.up {H H' : Hp} {ps : List (Int × Str)} (h : PrL H p ps) (s : Same H H') : PrL H' p ps := let ⟨ys, h1, h2, h3⟩ := h; ⟨ys, h1, s _ _ h2, fun y hy => s _ _ (h3 y hy)⟩
theorem Bes.up {H H' : Hp} {B : Adj Str} (h : Bes H p B) (s : Same H H') : Bes H' p B := let ⟨ys, h1, h2, h3, h4⟩ := h; ⟨ys, s _ _ h1, h2, fun y hy => (h3 y hy).up s, h4⟩
theorem CameAt.up {H H' : Hp} {F : Came Str} (h : CameAt H p F) (s : Same H H') : CameAt H' p F := let ⟨ys, h1, h2, h3⟩ := h; ⟨ys, h1, s _ _ h2, fun y hy => s _ _ (h3 y hy)⟩
theorem LL.up {H H' : Hp} {xs : List (List Str)} (h : LL H p xs) (s : Same H H') : LL H' p xs := let ⟨ys, h1, h2, h3⟩ := h; ⟨ys, h1, s _ _ h2, fun y hy => s _ _ (h3 y hy)⟩
theorem ModAt.up {H H' : Hp} {m ln lt : Addr} (h : ModAt H m ln lt W) (s : Same H H') : ModAt H' m ln lt W := ⟨s _ _ h.ob, s _ _ h.nm, let ⟨ys, h1, h2, h3⟩ := h.td; ⟨ys, h1, s _ _ h2, fun y hy => s _ _ (h3 y hy)⟩⟩
theorem Wd.up {H' : Hp} {m ln lt : Addr} (h : Wd K H p lc ld m ln lt W) (s : Same H H') : Wd K H' p lc ld m ln lt W := ⟨h.web.up s, h.mod.up s, h.n1, h.n2, h.n3, h.n4⟩
end
end RB
set_option maxHeartbeats 4000000
namespace RB
open PySem PySem.Spec PyProof.Rows L2
local macro_rules | `(tactic| walk_at "v") => `(tactic| with_reducible first
  | refine n_seq ?_ | refine r_seq ?_ | refine v_seq ?_ | refine v_asg ?_ | (refine' v_nameE ?k1 ?_; (case k1 => first | (simp only [List.set_cons_succ, List.set_cons_zero]; exact rfl) | exact rfl)) | (refine' v_var ?k1 ?_; (case k1 => with_unfolding_all exact rfl)) | refine v_c ?_ | refine v_cons ?_ | refine v_nil ?_ | refine v_op ?_ | refine v_call ?_
  | refine v_fld ?_ | refine v_meth ?_ | refine v_ret ?_ | refine v_next ?_ | refine n_0 ?_ | refine r_0 ?_ | refine v_drop ?_ | refine v_ifs ?_ | refine v_test ?_ | refine v_tb ?_ | refine v_bl ?_ | refine v_not ?_ | refine v_and ?_ | refine v_or ?_
  | refine v_andV ?_ | refine v_notV ?_ | refine v_cb ?_ | refine v_make ?_ | refine v_tup ?_ | refine v_lst ?_ | refine v_dget ?_ | refine v_din ?_ | refine v_dnotin ?_ | refine v_dput ?_ | refine v_sfld ?_ | refine v_bm ?_ | refine v_bm0 ?_
  | refine v_for ?_ | refine v_lc ?_ | refine i_list ?_ | refine i_tup ?_ | refine i_str ?_ | refine i_rng ?_ | refine i_enum ?_ | refine v_if ?_ | refine v_chain ?_ | refine v_slice ?_ | refine v_part ?_ | refine v_nopart ?_ | refine part_i ?_
  | refine if_t ?_ | refine if_f ?_ | refine if_t' ?_ | refine if_ng0 ?_ | refine if_ng1 ?_ | refine if_f' ?_ | refine m1_s ?_ | (refine' v_turnE ?k1 ?_; (case k1 => first | (simp only [L2.wipe, List.set_cons_succ, List.set_cons_zero]; exact rfl) | exact rfl)) | (refine k_comp ?k1 ?_; (case k1 => with_unfolding_all exact rfl)) | refine v_yes ?_ | refine g_cons ?_ | refine g_nil ?_ | refine r_for ?_ | refine n_for ?_ | refine v_two ?_ | refine v_par ?_ | refine v_m1 ?_ | refine v_un ?_
  | refine o_add ?_ | refine o_sub ?_ | refine o_lt ?_ | refine o_le ?_ | refine o_gt ?_ | refine o_ge ?_ | refine o_eqI ?_ | refine o_eqS ?_ | refine o_neI ?_ | refine o_neS ?_ | refine o_neB ?_ | refine o_isN ?_ | refine o_notN ?_
  | (refine o_mod ?k1 ?_; (case k1 => decide)) | (refine o_div ?k1 ?k2 ?_; (case k1 => decide); (case k2 => decide))
  | refine isi_int ?_ | refine isi_int_bool ?_ | refine isi_bool ?_ | refine isi_str ?_ | refine isi_list (by assumption) ?_ | refine len_l (by assumption) ?_ | refine len_d (by assumption) ?_ | refine len_s (by omega) ?_
  | refine fld_num ‹_› (by assumption) ?_ | refine fld_tl ‹_› (by assumption) ?_ | refine fld_hd ‹_› (by assumption) ?_ | refine fld_load ‹_› (by assumption) ?_ | refine fld_ow ‹_› (by assumption) ?_
  | refine fld_crowd ‹_› (by assumption) ?_ | refine fld_tied ‹_› (by assumption) ?_ | refine fld_given ‹_› (by assumption) ?_ | (refine m_web (by assumption) ?_ ?k1; (case k1 => intros; with_unfolding_all rfl))
  | (refine g_tup (by assumption) ?k1 ?_; (case k1 => with_unfolding_all exact rfl)) | refine bm_l (by assumption) ?_)
local macro_rules | `(tactic| walk_at "w") => `(tactic| repeat walk_at "v")
/-! Numbers and names as texts. -/
open TL in
theorem num_tl {n : Int} (h : 0 ≤ n) : tl (numT n) = numL n.toNat := by
  obtain ⟨k, rfl⟩ := Int.eq_ofNat_of_zero_le h
  exact tl_num k
open TL in
theorem num_len {n : Int} (h : 0 ≤ n) (h2 : n ≤ 10 ^ 60) : 1 ≤ (numT n).length ∧ (numT n).length ≤ 61 := by
  rw [len_tl, num_tl h]
  refine ⟨?_, numL_len (k := 61) (by decide) ?_⟩
  · have := numL_ne n.toNat
    cases e : numL n.toNat with
    | nil => exact absurd e this
    | cons a l => exact Nat.succ_le_succ (Nat.zero_le _)
  · have h3 : (10 : Int) ^ 60 < ((10 ^ 61 : Nat) : Int) := by decide
    omega
open TL in
theorem num_free {n : Int} (h : 0 ≤ n) : 32 ∉ (numT n).cps.toList := by
  show 32 ∉ tl (numT n)
  rw [num_tl h]
  exact numL_free (.inl (by decide))
theorem figs : figures.cps.toList = [48, 49, 50, 51, 52, 53, 54, 55, 56, 57] := by decide +kernel
theorem lets : letters.cps.toList = [97, 98, 99, 100, 101, 102, 103, 104, 105, 106, 107, 108, 109, 110, 111, 112, 113, 114, 115, 116, 117, 118, 119, 120, 121, 122] := by decide +kernel
open TL in
theorem num_figs {n : Int} (h : 0 ≤ n) : ((numT n).cps.toList.all fun c => decide (c ∈ figures.cps.toList)) = true := by
  show ((tl (numT n)).all _) = true
  rw [num_tl h, figs, List.all_eq_true]
  intro c hc
  have := numL_digits n.toNat c hc
  refine decide_eq_true ?_
  simp only [List.mem_cons, List.not_mem_nil, or_false]
  omega
open TL in
theorem numL_head : ∀ n : Nat, 0 < n → ∀ c l, numL n = c :: l → c ≠ 48 := by
  intro n
  induction n using Nat.strongRecOn with
  | _ n ih =>
    intro h0 c l e
    by_cases h : n < 10
    · rw [numL_lt h] at e
      injection e with e1 e2
      omega
    · rw [numL_step (by omega)] at e
      cases e3 : numL (n / 10) with
      | nil => exact absurd e3 (numL_ne _)
      | cons d m =>
        rw [e3] at e
        injection e with e1 e2
        subst e1
        exact ih (n / 10) (by omega) (by omega) _ _ e3
open TL in
/-- the first figure -/
theorem num_head {n : Int} (h : 0 ≤ n) : ∃ c, (numT n).cps.toList[0]? = some c ∧ (c = 48 → numT n = "0") := by
  show ∃ c, (tl (numT n))[0]? = _ ∧ _
  rw [num_tl h]
  cases e : numL n.toNat with
  | nil => exact absurd e (numL_ne _)
  | cons c l =>
    refine ⟨c, rfl, fun hc => ?_⟩
    by_cases z : n = 0
    · subst z; decide +kernel
    · exact absurd hc (numL_head _ (by omega) _ _ e)
open TL in
theorem num_val {n : Int} (h : 0 ≤ n) (h2 : n ≤ 10 ^ 60) : PySem.intText? (numT n) = some n := by
  have l := (num_len h h2).2
  rw [len_tl, num_tl h] at l
  obtain ⟨k, rfl⟩ := Int.eq_ofNat_of_zero_le h
  exact int_num (by rw [Int.toNat_natCast] at l; omega)
theorem num_log {n : Int} (h : 0 ≤ n) (h2 : n ≤ 10 ^ 60) : n.natAbs.log2 < 1920 := by
  by_cases z : n = 0
  · subst z; decide
  · rw [Nat.log2_lt (by omega)]
    have h3 : (10 : Int) ^ 60 < ((10 ^ 61 : Nat) : Int) := by decide
    have h4 : 10 ^ 61 < 2 ^ 1920 := Nat.lt_of_lt_of_le (m := 2 ^ 204) (by decide) (Nat.pow_le_pow_right (by decide) (by decide))
    omega
open TL in
theorem numT_inj {m n : Int} (h : 0 ≤ m) (h' : 0 ≤ n) (e : numT m = numT n) : m = n := by
  have e1 := congrArg tl e
  rw [num_tl h, num_tl h'] at e1
  have := numL_inj e1
  omega
theorem okName.free {x : Str} (h : okName x) : 32 ∉ x.cps.toList := fun m => by
  have := h.sg _ m
  rw [lets] at this
  revert this; decide
theorem chr_inj {c d : Nat} (h : (⟨#[c]⟩ : Str) = ⟨#[d]⟩) : c = d := by
  injection h with h
  simpa using h
theorem chr0 : ("0" : Str) = ⟨#[48]⟩ := by decide +kernel
/-! ### lines -/
open TL in
theorem sp_tl : tl " " = [32] := by decide +kernel
open TL in
theorem split_sp {parts : List Str} (hne : parts ≠ []) (hp : ∀ p ∈ parts, 32 ∉ p.cps.toList) : Txt.split (Txt.join " " parts) " " = parts := split_join sp_tl (by decide +kernel) hne hp
open TL in
theorem join2 (a b : Str) : Txt.join " " [a, b] = a ++ " " ++ b := by
  refine ext_tl ?_
  rw [join_eq, tl_join, tl_append, tl_append, sp_tl]
  show tl a ++ ([32] ++ (tl b)) = _
  rw [List.append_assoc]
def lnW' : Ln → List Str
  | .pt n => ["point", n]
  | .ti t => [if t.ow then "way" else "tie", numT t.num, t.tl, t.hd, numT t.load]
  | .gv n => ["given", numT n]
theorem lnT_join (l : Ln) : lnT l = Txt.join " " (lnW' l) := by
  cases l with
  | pt n => 
    show ("point " : Str) ++ n = Txt.join " " ["point", n]
    rw [join2]
    congr 1
  | ti t => rfl
  | gv n => 
    show ("given " : Str) ++ numT n = Txt.join " " ["given", numT n]
    rw [join2]
    congr 1
open TL in
theorem joinL_len (S : List Nat) : ∀ ps : List (List Nat), (joinL S ps).length ≤ (ps.map List.length).sum + ps.length * S.length
  | [] => by simp [joinL]
  | [p] => by simp [joinL]
  | p :: q :: r => by
    have := joinL_len S (q :: r)
    simp only [joinL, List.length_append, List.map_cons, List.sum_cons, List.length_cons] at this ⊢
    rw [Nat.add_mul, Nat.add_mul] at *
    omega
open TL in
theorem join_len (ws : List Str) : (Txt.join " " ws).length ≤ (ws.map Str.length).sum + ws.length := by
  rw [len_tl, join_eq, tl_join, sp_tl]
  have := joinL_len [32] (ws.map tl)
  rw [List.map_map, List.length_map] at this
  have e : ws.map (List.length ∘ tl) = ws.map Str.length := List.map_congr_left fun x _ => (len_tl x).symm
  rw [e] at this
  simpa using this
section
variable {K : PySem.W.Frag} {σ : L2.St} {H : Hp} {Q : VK} {te : TE} {t : TT} {x : V} {g : TG}
/-- a comprehension over a text -/
theorem l_str {z : Str} {vs : List Nat} (f : Nat → V) (hn : z.length ≤ 100000)
    (turn : ∀ c ∈ z.cps.toList, ∀ H', Same H H' → ∀ N : Option V → Hp → Prop, (∀ H3, Same H' H3 → N (some (f c)) H3) → Turn g t te vs σ (.str ⟨#[c]⟩) H' N)
    (fin : ∀ d H', H d = none → Same H H' → H' d = some (.lst (z.cps.toList.map f)) → Q (.ref d) H') : ItS (.str z) H fun J H1 => LcK J g t te vs σ H1 Q :=
  ⟨z, rfl, fun d hd => lcG z.cps.size hn hd (fun i acc _ => acc = (z.cps.toList.take i).map f) rfl (fun _ _ _ _ _ h => h) (fun i H' hi _ => hi) (fun H' _ => Nat.le_refl _) (fun i acc H' hi s p e v H2 yl N k => by
    obtain ⟨rfl, c, hc, rfl⟩ := yl
    have e1 : z.cps.toList[i]? = some c := by rw [Array.getElem?_toList]; exact hc
    exact turn c (List.mem_of_getElem? e1) _ s N fun H3 s3 => k _ H3 s3 (by rw [p, take_snoc e1, List.map_append]; rfl)) fun acc H' s e p => by
    subst p
    rw [List.take_of_length_le (by simp)] at e
    exact fin d H' hd s e⟩
theorem r_all {p : Addr} {bs : List Bool} (h : H p = some (.lst (bs.map V.bl))) (q : Q (.bl (bs.all id)) H) : rAll K [.ref p] H Q := ⟨p, bs, rfl, .inl (.inl h), q⟩
theorem r_any {p : Addr} {bs : List Bool} (h : H p = some (.lst (bs.map V.bl))) (q : Q (.bl (bs.any id)) H) : rAny K [.ref p] H Q := ⟨p, bs, rfl, .inl (.inl h), q⟩
theorem ix_s {z : Str} {n c : Nat} (l : z.length ≤ 100000) (e : z.cps.toList[n]? = some c) (q : Q (.str ⟨#[c]⟩) H) : rIxS (.str z) (.int n) H Q := ⟨z, _, c, rfl, rfl, sz l, by rw [atI_nat]; exact e, q⟩
end
theorem st_is_whole (a0 : V) : L2.start n_is_whole [a0] = [some a0] := rfl
theorem pure_is_whole {w : World} {K : PySem.W.Frag} {mg : Str → Option Value} (T : Tx w K mg) (vs : List V) (H : Hp) (Q : VK) (E : XK) (h : sp_is_whole K vs H Q E) : t_is_whole K { nx := fun _ H' => Q .non H', rt := Q } (start n_is_whole vs) H := by
  show t_is_whole K (D0 Q) (start n_is_whole vs) H
  unfold t_is_whole
  obtain ⟨i, rfl, q⟩ := h
  walk_at "w"
  exact q
theorem st_is_among (a0 a1 a2 : V) : L2.start n_is_among [a0, a1, a2] = [some a0, some a1, some a2] := rfl
theorem pure_is_among {w : World} {K : PySem.W.Frag} {mg : Str → Option Value} (T : Tx w K mg) (vs : List V) (H : Hp) (Q : VK) (E : XK) (h : sp_is_among K vs H Q E) : t_is_among K { nx := fun _ H' => Q .non H', rt := Q } (start n_is_among vs) H := by
  show t_is_among K (D0 Q) (start n_is_among vs) H
  unfold t_is_among
  obtain ⟨i, a, b, rfl, q⟩ := h
  walk_at "w"
  refine ⟨_, rfl, ?_⟩
  walk_at "w"
  refine if_d (fun c => ?_) (fun c => ?_)
  · walk_at "w"
    rw [decide_eq_true c] at q
    exact q
  · walk_at "w"
    rw [decide_eq_false c] at q
    exact q
theorem st_are_signs (a0 a1 : V) : L2.start n_are_signs [a0, a1] = [some a0, some a1, none] := rfl
theorem pure_are_signs {w : World} {K : PySem.W.Frag} {mg : Str → Option Value} (T : Tx w K mg) (vs : List V) (H : Hp) (Q : VK) (E : XK) (h : sp_are_signs K vs H Q E) : t_are_signs K { nx := fun _ H' => Q .non H', rt := Q } (start n_are_signs vs) H := by
  show t_are_signs K (D0 Q) (start n_are_signs vs) H
  unfold t_are_signs
  obtain ⟨x, y, rfl, hl, q⟩ := h
  walk_at "w"
  refine l_str (fun c => .bl (decide (c ∈ y.cps.toList))) (by omega) (fun c hc H1 s1 N k => ?_) (fun d H1 nd s1 e => ?_)
  · walk_at "w"
    exact ⟨c, y, rfl, rfl, k _ (Same.refl _)⟩
  · walk_at "w"
    refine r_all (bs := x.cps.toList.map fun c => decide (c ∈ y.cps.toList)) (by rw [e, List.map_map]; rfl) ?_
    walk_at "w"
    rw [List.all_map]
    exact q H1 s1
theorem st_is_name (a0 : V) : L2.start n_is_name [a0] = [some a0] := rfl
theorem pure_is_name {w : World} {K : PySem.W.Frag} {mg : Str → Option Value} (T : Tx w K mg) (vs : List V) (H : Hp) (Q : VK) (E : XK) (h : sp_is_name K vs H Q E) : t_is_name K { nx := fun _ H' => Q .non H', rt := Q } (start n_is_name vs) H := by
  show t_is_name K (D0 Q) (start n_is_name vs) H
  unfold t_is_name
  obtain ⟨x, rfl, ok, q⟩ := h
  have h1 := ok.pos
  have h2 := ok.len
  walk_at "w"
  refine if_dT (by omega) ?_
  walk_at "w"
  refine if_dT (by omega) ?_
  walk_at "w"
  refine ⟨x, letters, rfl, by omega, fun H1 s1 => ?_⟩
  rw [List.all_eq_true.mpr fun c hc => decide_eq_true (ok.sg c hc)]
  exact q _ s1
theorem st_number_text (a0 : V) : L2.start n_number_text [a0] = [some a0] := rfl
theorem pure_number_text {w : World} {K : PySem.W.Frag} {mg : Str → Option Value} (T : Tx w K mg) (vs : List V) (H : Hp) (Q : VK) (E : XK) (h : sp_number_text K vs H Q E) : t_number_text K { nx := fun _ H' => Q .non H', rt := Q } (start n_number_text vs) H := by
  show t_number_text K (D0 Q) (start n_number_text vs) H
  unfold t_number_text
  obtain ⟨i, rfl, h0, h1, q⟩ := h
  walk_at "w"
  exact ⟨i, rfl, num_log h0 h1, q⟩
theorem st_number_of (a0 : V) : L2.start n_number_of [a0] = [some a0] := rfl
theorem pure_number_of {w : World} {K : PySem.W.Frag} {mg : Str → Option Value} (T : Tx w K mg) (vs : List V) (H : Hp) (Q : VK) (E : XK) (h : sp_number_of K vs H Q E) : t_number_of K { nx := fun _ H' => Q .non H', rt := Q } (start n_number_of vs) H := by
  show t_number_of K (D0 Q) (start n_number_of vs) H
  unfold t_number_of
  obtain ⟨n, rfl, h0, h1, q⟩ := h
  have h2 := num_len h0 h1
  walk_at "w"
  refine if_dT (by omega) ?_
  walk_at "w"
  refine if_nF (by omega) ?_
  walk_at "w"
  refine ⟨numT n, figures, rfl, by omega, fun H1 s1 => ?_⟩
  rw [num_figs h0]
  walk_at "w"
  obtain ⟨c, e, hc⟩ := num_head h0
  refine ix_s (n := 0) (by omega) e ?_
  walk_at "w"
  refine if_d (fun c1 => ?_) (fun c1 => ?_)
  · walk_at "w"
    refine if_nF (hc (chr_inj (c1.trans chr0))) ?_
    walk_at "w"
    exact ⟨_, n, rfl, num_val h0 h1, by omega, q _ s1⟩
  · walk_at "w"
    exact ⟨_, n, rfl, num_val h0 h1, by omega, q _ s1⟩
theorem st_words_of (a0 : V) : L2.start n_words_of [a0] = [some a0, none] := rfl
theorem pure_words_of {w : World} {K : PySem.W.Frag} {mg : Str → Option Value} (T : Tx w K mg) (vs : List V) (H : Hp) (Q : VK) (E : XK) (h : sp_words_of K vs H Q E) : t_words_of K { nx := fun _ H' => Q .non H', rt := Q } (start n_words_of vs) H := by
  show t_words_of K (D0 Q) (start n_words_of vs) H
  unfold t_words_of
  obtain ⟨ws, rfl, h0, h1, h2, q⟩ := h
  have l1 : (Txt.join " " ws).length ≤ 2000 := by
    have a := join_len ws
    have b : (ws.map Str.length).sum ≤ ws.length * 100 := by
      clear a q h0 h1
      induction ws with
      | nil => simp
      | cons a l ih =>
        have := ih fun x hx => h2 x (List.mem_cons_of_mem _ hx)
        have := (h2 a List.mem_cons_self).2.1
        simp only [List.map_cons, List.sum_cons, List.length_cons]
        omega
    omega
  walk_at "w"
  refine ⟨_, _, rfl, rfl, by decide +kernel, Nat.le_trans (Nat.add_le_add_right l1 2) (by decide), ?_⟩
  rw [split_sp h0 fun p hp => (h2 p hp).2.2]
  refine al_s fun p H1 np s1 e => ?_
  walk_at "w"
  refine in_l e rfl (flat_str ws) ?_
  walk_at "w"
  rw [inV_str]
  refine if_dF (fun m => ?_) ?_
  · have := (h2 _ m).1
    exact absurd this (by decide +kernel)
  · walk_at "w"
    exact q p H1 np s1 e
/-! ### dicts that are told by a list -/
section
variable {α : Type} {k : α → Key} {v : α → V} {ys : List α} {x : Key} {y : α}
theorem valV_at (hn : (ys.map k).Nodup) (h : y ∈ ys) : valV (ys.map fun y => (k y, v y)) (k y) = some (v y) := by
  induction ys with
  | nil => cases h
  | cons a l ih =>
    obtain ⟨n1, n2⟩ := List.nodup_cons.mp hn
    unfold valV
    rw [List.map_cons, List.find?_cons]
    by_cases c : k a = k y
    · rw [decide_eq_true c]
      rcases List.mem_cons.mp h with e | h
      · rw [e]; rfl
      · exact absurd (c ▸ List.mem_map_of_mem h) n1
    · rw [decide_eq_false c]
      rcases List.mem_cons.mp h with e | h
      · rw [e] at c; exact absurd rfl c
      · exact ih n2 h
theorem valV_no (h : ∀ y ∈ ys, k y ≠ x) : valV (ys.map fun y => (k y, v y)) x = none := by
  induction ys with
  | nil => rfl
  | cons a l ih =>
    unfold valV
    rw [List.map_cons, List.find?_cons, decide_eq_false (h a List.mem_cons_self)]
    exact ih fun y hy => h y (List.mem_cons_of_mem _ hy)
theorem valV_any : (valV (ys.map fun y => (k y, v y)) x).isSome = ys.any fun y => decide (k y = x) := by
  induction ys with
  | nil => rfl
  | cons a l ih =>
    unfold valV at ih ⊢
    rw [List.map_cons, List.find?_cons, List.any_cons]
    by_cases c : k a = x
    · rw [decide_eq_true c]
      rfl
    · rw [decide_eq_false c]
      exact ih
theorem valV_isI {f : α → Int} {n : Int} : (valV (ys.map fun y => ((Sum.inl (f y) : Key), v y)) (Sum.inl n)).isSome = decide (n ∈ ys.map f) := by
  rw [valV_any (k := fun y => Sum.inl (f y)), Bool.eq_iff_iff, List.any_eq_true, decide_eq_true_iff, List.mem_map]
  exact ⟨fun ⟨y, h, e⟩ => ⟨y, h, Sum.inl.inj (of_decide_eq_true e)⟩, fun ⟨y, h, e⟩ => ⟨y, h, decide_eq_true (by rw [e])⟩⟩
theorem valV_isS {f : α → Str} {n : Str} : (valV (ys.map fun y => ((Sum.inr (f y) : Key), v y)) (Sum.inr n)).isSome = decide (n ∈ ys.map f) := by
  rw [valV_any (k := fun y => Sum.inr (f y)), Bool.eq_iff_iff, List.any_eq_true, decide_eq_true_iff, List.mem_map]
  exact ⟨fun ⟨y, h, e⟩ => ⟨y, h, Sum.inr.inj (of_decide_eq_true e)⟩, fun ⟨y, h, e⟩ => ⟨y, h, decide_eq_true (by rw [e])⟩⟩
theorem putK_new {u : V} (h : ∀ y ∈ ys, k y ≠ x) : putK (ys.map fun y => (k y, v y)) x u = ys.map (fun y => (k y, v y)) ++ [(x, u)] := by
  unfold putK
  rw [if_neg]
  rw [List.any_map, List.any_eq_true]
  rintro ⟨y, hy, e⟩
  exact h y hy (of_decide_eq_true e)
theorem putK_old {u : V} (h : x ∈ ys.map k) : putK (ys.map fun y => (k y, v y)) x u = ys.map fun y => (k y, if k y = x then u else v y) := by
  unfold putK
  rw [if_pos, List.map_map]
  · refine List.map_congr_left fun y _ => ?_
    dsimp only [Function.comp]
    split <;> rfl
  · rw [List.any_map, List.any_eq_true]
    obtain ⟨y, hy, e⟩ := List.mem_map.mp h
    exact ⟨y, hy, decide_eq_true e⟩
theorem dropK_map : dropK (ys.map fun y => (k y, v y)) x = (ys.filter fun y => decide (k y ≠ x)).map fun y => (k y, v y) := by
  unfold dropK
  rw [List.filter_map]
  rfl
end
theorem ne_obj {H : Hp} {a b : Addr} {o u : HO} (h1 : H a = some o) (h2 : H b = some u) (h : o ≠ u) : a ≠ b := by
  rintro rfl
  rw [h1] at h2
  exact h (Option.some.inj h2)
section
variable {K : PySem.W.Frag} {H H' : Hp} {p lc ld : Addr} {w : Wr} {Q : VK} {σ : L2.St} {q : Prop}
theorem get_i {kvs : List (Key × V)} {n : Int} {v : V} {p : Addr} (h : H p = some (.dK kvs)) (e : valV kvs (.inl n) = some v) (q : Q v H) : GetR (.ref p) (.int n) H Q := get_k (k := .inl n) (.inl h) e q
theorem get_s {kvs : List (Key × V)} {n : Str} {v : V} {p : Addr} (h : H p = some (.dK kvs)) (e : valV kvs (.inr n) = some v) (q : Q v H) : GetR (.ref p) (.str n) H Q := get_k (k := .inr n) (.inl h) e q
theorem in_i {kvs : List (Key × V)} {n : Int} {neg : Bool} {p : Addr} (h : H p = some (.dK kvs)) (q : Q (.bl (if neg then !(valV kvs (.inl n)).isSome else (valV kvs (.inl n)).isSome)) H) : InR neg (.int n) (.ref p) H Q := in_k (k := .inl n) (.inl h) q
theorem in_s {kvs : List (Key × V)} {n : Str} {neg : Bool} {p : Addr} (h : H p = some (.dK kvs)) (q : Q (.bl (if neg then !(valV kvs (.inr n)).isSome else (valV kvs (.inr n)).isSome)) H) : InR neg (.str n) (.ref p) H Q := in_k (k := .inr n) (.inl h) q
theorem put_i {kvs : List (Key × V)} {n : Int} {v : V} {p : Addr} {q : Hp → Prop} (h : H p = some (.dK kvs)) (l : kvs.length ≤ 100000) (z : q (upd H p (.dK (putK kvs (.inl n) v)))) : PutR v (.ref p) (.int n) H q := put_k (k := .inl n) h l z
theorem put_s {kvs : List (Key × V)} {n : Str} {v : V} {p : Addr} {q : Hp → Prop} (h : H p = some (.dK kvs)) (l : kvs.length ≤ 100000) (z : q (upd H p (.dK (putK kvs (.inr n) v)))) : PutR v (.ref p) (.str n) H q := put_k (k := .inr n) h l z
abbrev tiesD (ys : List AT) : List (Key × V) := ys.map fun y => (Sum.inl y.2.num, V.ref y.1)
theorem nums_of {ys : List AT} {ts : List Tr} (h1 : ys.map (·.2) = ts) : ys.map (·.2.num) = ts.map (·.num) := by rw [← h1, List.map_map]; rfl
theorem keys_nd {ys : List AT} {ts : List Tr} (h1 : ys.map (·.2) = ts) (s : ts.Pairwise fun a b => a.num < b.num) : (ys.map fun y => (Sum.inl y.2.num : Key)).Nodup := by
  have := nums_nodup s
  rw [← nums_of h1] at this
  rw [List.nodup_iff_pairwise_ne] at this ⊢
  rw [List.pairwise_map] at this ⊢
  exact this.imp fun h e => h (Sum.inl.inj e)
theorem TieAt.upd_ne {a b : Addr} {t : Tr} {o : HO} (h : TieAt K H a t) (ne : a ≠ b) : TieAt K (upd H b o) a t := let ⟨dx, h⟩ := h; ⟨dx, by rw [L2.upd_ne ne]; exact h⟩
theorem TieAt.ne {a b : Addr} {t : Tr} {o : HO} (h : TieAt K H a t) (hb : H b = some o) (no : ∀ C dx fs, o ≠ .ins C dx fs) : a ≠ b := let ⟨dx, h⟩ := h; ne_obj h hb fun e => no _ _ _ e.symm
theorem WebAt.p_lc (h : WebAt K H p lc ld w) : p ≠ lc := let ⟨dx, h1⟩ := h.ob; ne_obj h1 h.cr (by intro e; cases e)
theorem WebAt.p_ld (h : WebAt K H p lc ld w) : p ≠ ld := let ⟨dx, h1⟩ := h.ob; let ⟨ys, _, h2, _⟩ := h.td; ne_obj h1 h2 (by intro e; cases e)
theorem WebAt.lc_ld (h : WebAt K H p lc ld w) : lc ≠ ld := let ⟨ys, _, h2, _⟩ := h.td; ne_obj h.cr h2 (by intro e; cases e)
/-- the crowd changes -/
theorem WebAt.put_cr (h : WebAt K H p lc ld w) (ns : List Str) : WebAt K (upd H lc (.lst (ns.map V.str))) p lc ld { w with names := ns } := by
  obtain ⟨dx, h1⟩ := h.ob
  obtain ⟨ys, e1, e2, e3⟩ := h.td
  exact ⟨⟨dx, by rw [L2.upd_ne h.p_lc]; exact h1⟩, upd_same, ys, e1, by rw [L2.upd_ne h.lc_ld.symm]; exact e2, fun y hy => (e3 y hy).upd_ne ((e3 y hy).ne h.cr (by intro C dx fs e; cases e))⟩
/-- the ties change -/
theorem WebAt.put_td (h : WebAt K H p lc ld w) (ys : List AT) (hy : ∀ y ∈ ys, TieAt K H y.1 y.2) : WebAt K (upd H ld (.dK (tiesD ys))) p lc ld { w with ties := ys.map (·.2) } := by
  obtain ⟨dx, h1⟩ := h.ob
  obtain ⟨zs, e1, e2, e3⟩ := h.td
  exact ⟨⟨dx, by rw [L2.upd_ne h.p_ld]; exact h1⟩, by rw [L2.upd_ne h.lc_ld]; exact h.cr, ys, rfl, upd_same, fun y hm => (hy y hm).upd_ne ((hy y hm).ne e2 (by intro C dx fs e; cases e))⟩
theorem m_mem {q : Prop} {m : Str} (h : WebAt K H p lc ld w) (q1 : q) (hm : (webF lc ld w.given).lookup m = none) : MethR (He.ga K "Web") m (.ref p) H q := let ⟨dx, h⟩ := h.ob; ⟨p, dx, _, rfl, h, hm, q1⟩
end
theorem perm_sorted {l m : List Int} (h : l.Perm m) (s : l.Pairwise (· ≤ ·)) (t : m.Pairwise (· < ·)) : l = m :=
  List.Perm.eq_of_pairwise (le := (· ≤ ·)) (fun a b _ _ h1 h2 => Int.le_antisymm h1 h2) s (t.imp fun h => Int.le_of_lt h) h
theorem sorted_i {K : PySem.W.Frag} {H : Hp} {Q : VK} {a : Addr} {ns : List Int} (h : H a = some (.lst (ns.map V.int))) (l : ns.length < 64) (s : ns.Pairwise (· < ·)) (q : ∀ p H', H p = none → Same H H' → H' p = some (.lst (ns.map V.int)) → Q (.ref p) H') : rSorted K [.ref a] H Q :=
  ⟨a, ns, rfl, .inl (.inl h), l, fun ns' p pm st np => by rw [perm_sorted pm st s]; exact al q p np⟩
theorem sorted_d {H : Hp} {Q : VK} {a : Addr} {kvs : List (Key × V)} {ns : List Int} (h : H a = some (.dK kvs)) (e : kvs.map (·.1) = ns.map Sum.inl) (l : ns.length < 64) (s : ns.Pairwise (· < ·)) (q : ∀ p H', H p = none → Same H H' → H' p = some (.lst (ns.map V.int)) → Q (.ref p) H') : cSortD [.ref a] H Q :=
  ⟨a, kvs, ns, rfl, .inl h, e, l, fun ns' p pm st np => by rw [perm_sorted pm st s]; exact al q p np⟩
section
variable {K : PySem.W.Frag} {H H' : Hp} {p lc ld : Addr} {w : Wr} {Q : VK} {σ : L2.St} {v : V}
theorem set_f {C dx : Addr} {fs : List (Str × V)} {f : Str} {q : Hp → Prop} (h : H p = some (.ins C dx fs)) (c : Cls K C) (n : NoAttr K C f) (l : fs.length < 1000) (z : q (upd H p (.ins C dx (putF f v fs)))) : SetF K f v (.ref p) H q := ⟨p, C, dx, fs, rfl, h, c, n, l, z⟩
theorem WebAt.in_crowd (h : WebAt K H p lc ld w) {n : Str} {neg : Bool} (q : Q (.bl (if neg then !decide (n ∈ w.names) else decide (n ∈ w.names))) H) : rIn K neg (.str n) (.ref lc) H Q :=
  in_l h.cr rfl (flat_str _) (by rw [inV_str]; exact q)
theorem WebAt.len_crowd (h : WebAt K H p lc ld w) (q : Q (.int w.names.length) H) : cLenL K [.ref lc] H Q := len_l h.cr (by rw [List.length_map]; exact q)
theorem WebAt.len_tied (h : WebAt K H p lc ld w) (q : Q (.int w.ties.length) H) : cLenD [.ref ld] H Q := by
  obtain ⟨ys, e1, e2, e3⟩ := h.td
  exact len_d e2 (by rw [List.length_map, ← List.length_map (f := (·.2)) (as := ys), e1]; exact q)
/-- the tie of a number -/
theorem WebAt.get_tie (h : WebAt K H p lc ld w) (s : w.ties.Pairwise fun a b => a.num < b.num) {t : Tr} (ht : t ∈ w.ties) (q : ∀ a, TieAt K H a t → Q (.ref a) H) : GetR (.ref ld) (.int t.num) H Q := by
  obtain ⟨ys, e1, e2, e3⟩ := h.td
  rw [← e1] at ht
  obtain ⟨y, hy, rfl⟩ := List.mem_map.mp ht
  exact get_i e2 (valV_at (k := fun y : AT => (Sum.inl y.2.num : Key)) (v := fun y => V.ref y.1) (keys_nd e1 s) hy) (q _ (e3 y hy))
theorem WebAt.in_tied (h : WebAt K H p lc ld w) {n : Int} {neg : Bool} (q : Q (.bl (if neg then !decide (n ∈ w.ties.map (·.num)) else decide (n ∈ w.ties.map (·.num)))) H) : InR neg (.int n) (.ref ld) H Q := by
  obtain ⟨ys, e1, e2, e3⟩ := h.td
  refine in_i e2 ?_
  rw [valV_isI (f := fun y : AT => y.2.num), nums_of e1]
  exact q
end
theorem st_Way_init (a0 a1 : V) : L2.start n_Way_init [a0, a1] = [some a0, some a1] := rfl
theorem pure_Way_init {w : World} {K : PySem.W.Frag} {mg : Str → Option Value} (T : Tx w K mg) (vs : List V) (H : Hp) (Q : VK) (E : XK) (h : sp_Way_init K vs H Q E) : t_Way_init K { nx := fun _ H' => Q .non H', rt := Q } (start n_Way_init vs) H := by
  show t_Way_init K (D0 Q) (start n_Way_init vs) H
  unfold t_Way_init
  obtain ⟨p, dx, l, xs, rfl, h1, h2, q⟩ := h
  walk_at "w"
  refine list_l h2 fun a H1 na s1 e1 => ?_
  walk_at "w"
  refine set_f (s1 _ _ h1) T.c_Way T.n_Way_numbers (by decide) ?_
  walk_at "w"
  exact q a _ na ((Keep.of s1).put (List.mem_singleton.mpr rfl)) upd_same (by rw [L2.upd_ne (ne_obj e1 (s1 _ _ h1) (by intro e; cases e))]; exact e1)
theorem st_Border_init (a0 a1 : V) : L2.start n_Border_init [a0, a1] = [some a0, some a1] := rfl
theorem pure_Border_init {w : World} {K : PySem.W.Frag} {mg : Str → Option Value} (T : Tx w K mg) (vs : List V) (H : Hp) (Q : VK) (E : XK) (h : sp_Border_init K vs H Q E) : t_Border_init K { nx := fun _ H' => Q .non H', rt := Q } (start n_Border_init vs) H := by
  show t_Border_init K (D0 Q) (start n_Border_init vs) H
  unfold t_Border_init
  obtain ⟨p, dx, l, xs, rfl, h1, h2, q⟩ := h
  walk_at "w"
  refine list_l h2 fun a H1 na s1 e1 => ?_
  walk_at "w"
  refine set_f (s1 _ _ h1) T.c_Border T.n_Border_names (by decide) ?_
  walk_at "w"
  exact q a _ na ((Keep.of s1).put (List.mem_singleton.mpr rfl)) upd_same (by rw [L2.upd_ne (ne_obj e1 (s1 _ _ h1) (by intro e; cases e))]; exact e1)
theorem st_OddRing_init (a0 a1 : V) : L2.start n_OddRing_init [a0, a1] = [some a0, some a1] := rfl
theorem pure_OddRing_init {w : World} {K : PySem.W.Frag} {mg : Str → Option Value} (T : Tx w K mg) (vs : List V) (H : Hp) (Q : VK) (E : XK) (h : sp_OddRing_init K vs H Q E) : t_OddRing_init K { nx := fun _ H' => Q .non H', rt := Q } (start n_OddRing_init vs) H := by
  show t_OddRing_init K (D0 Q) (start n_OddRing_init vs) H
  unfold t_OddRing_init
  obtain ⟨p, dx, l, xs, rfl, h1, h2, q⟩ := h
  walk_at "w"
  refine list_l h2 fun a H1 na s1 e1 => ?_
  walk_at "w"
  refine set_f (s1 _ _ h1) T.c_OddRing T.n_OddRing_numbers (by decide) ?_
  walk_at "w"
  exact q a _ na ((Keep.of s1).put (List.mem_singleton.mpr rfl)) upd_same (by rw [L2.upd_ne (ne_obj e1 (s1 _ _ h1) (by intro e; cases e))]; exact e1)
theorem st_Sides_init (a0 a1 : V) : L2.start n_Sides_init [a0, a1] = [some a0, some a1] := rfl
theorem pure_Sides_init {w : World} {K : PySem.W.Frag} {mg : Str → Option Value} (T : Tx w K mg) (vs : List V) (H : Hp) (Q : VK) (E : XK) (h : sp_Sides_init K vs H Q E) : t_Sides_init K { nx := fun _ H' => Q .non H', rt := Q } (start n_Sides_init vs) H := by
  show t_Sides_init K (D0 Q) (start n_Sides_init vs) H
  unfold t_Sides_init
  obtain ⟨p, dx, l, kvs, rfl, h1, h2, q⟩ := h
  walk_at "w"
  refine dict_d h2 fun a H1 na s1 e1 => ?_
  walk_at "w"
  refine set_f (s1 _ _ h1) T.c_Sides T.n_Sides_sides (by decide) ?_
  walk_at "w"
  exact q a _ na ((Keep.of s1).put (List.mem_singleton.mpr rfl)) upd_same (by rw [L2.upd_ne (ne_obj e1 (s1 _ _ h1) (by intro e; cases e))]; exact e1)
theorem st_need_load (a0 : V) : L2.start n_need_load [a0] = [some a0] := rfl
theorem pure_need_load {w : World} {K : PySem.W.Frag} {mg : Str → Option Value} (T : Tx w K mg) (vs : List V) (H : Hp) (Q : VK) (E : XK) (h : sp_need_load K vs H Q E) : t_need_load K { nx := fun _ H' => Q .non H', rt := Q } (start n_need_load vs) H := by
  show t_need_load K (D0 Q) (start n_need_load vs) H
  unfold t_need_load
  obtain ⟨i, rfl, h0, h1, q⟩ := h
  walk_at "w"
  refine ⟨i, 0, 10 ^ 60, rfl, ?_⟩
  rw [decide_eq_true h0, decide_eq_true h1]
  walk_at "w"
  exact q
theorem st_Tie_init (a0 a1 a2 a3 a4 a5 : V) : L2.start n_Tie_init [a0, a1, a2, a3, a4, a5] = [some a0, some a1, some a2, some a3, some a4, some a5] := rfl
theorem pure_Tie_init {w : World} {K : PySem.W.Frag} {mg : Str → Option Value} (T : Tx w K mg) (vs : List V) (H : Hp) (Q : VK) (E : XK) (h : sp_Tie_init K vs H Q E) : t_Tie_init K { nx := fun _ H' => Q .non H', rt := Q } (start n_Tie_init vs) H := by
  show t_Tie_init K (D0 Q) (start n_Tie_init vs) H
  unfold t_Tie_init
  obtain ⟨p, dx, t, rfl, h1, q⟩ := h
  walk_at "w"
  refine set_f h1 T.c_Tie T.n_Tie_number (by decide) ?_
  walk_at "w"
  refine set_f upd_same T.c_Tie T.n_Tie_tail (show 1 < 1000 by decide) ?_
  walk_at "w"
  refine set_f upd_same T.c_Tie T.n_Tie_head (show 2 < 1000 by decide) ?_
  walk_at "w"
  refine set_f upd_same T.c_Tie T.n_Tie_load (show 3 < 1000 by decide) ?_
  walk_at "w"
  refine set_f upd_same T.c_Tie T.n_Tie_is_oneway (show 4 < 1000 by decide) ?_
  walk_at "w"
  have m : p ∈ [p] := List.mem_singleton.mpr rfl
  exact q _ ((((((Keep.refl [p] H).put m).put m).put m).put m).put m) upd_same
theorem st_moved_tie (a0 a1 a2 : V) : L2.start n_moved_tie [a0, a1, a2] = [some a0, some a1, some a2, none, none] := rfl
theorem pure_moved_tie {w : World} {K : PySem.W.Frag} {mg : Str → Option Value} (T : Tx w K mg) (vs : List V) (H : Hp) (Q : VK) (E : XK) (h : sp_moved_tie K vs H Q E) : t_moved_tie K { nx := fun _ H' => Q .non H', rt := Q } (start n_moved_tie vs) H := by
  show t_moved_tie K (D0 Q) (start n_moved_tie vs) H
  unfold t_moved_tie
  obtain ⟨p, t, a, b, rfl, h1, q⟩ := h
  walk_at "w"
  have key : ∀ (x y : Str), mv a b t = { t with tl := x, hd := y } → ∀ p' dx' H1, H1 p' = some (.ins (He.ga K "Tie") dx' (tieF { t with tl := x, hd := y })) → TieAt K H1 p' (mv a b t) := fun x y e p' dx' H1 h => ⟨dx', by rw [e]; exact h⟩
  have fin : ∀ (x y : Str), mv a b t = { t with tl := x, hd := y } → MkR (He.ga K "Tie") (sp_Tie_init K) [.int t.num, .str x, .str y, .int t.load, .bl t.ow] E0 H Q := by
    intro x y e p' dx' n1 n2 n3
    refine ⟨p', dx', { t with tl := x, hd := y }, rfl, upd_same, fun H1 k1 e1 => ⟨rfl, q p' H1 n1 (fun c o hc => ?_) ⟨dx', by rw [e]; exact e1⟩⟩⟩
    have c1 : c ≠ p' := ne_of_none hc n1
    have c2 : c ≠ dx' := ne_of_none hc n2
    exact k1 c o (by simpa using c1) (by rw [L2.upd_ne c1, L2.upd_ne c2]; exact hc)
  refine if_d (fun c => ?_) (fun c => ?_)
  · walk_at "w"
    refine if_d (fun d => ?_) (fun d => ?_)
    · walk_at "w"
      exact fin b b (by simp [mv, c, d])
    · walk_at "w"
      exact fin b t.hd (by simp [mv, c, d])
  · walk_at "w"
    refine if_d (fun d => ?_) (fun d => ?_)
    · walk_at "w"
      exact fin t.tl b (by simp [mv, c, d])
    · walk_at "w"
      exact fin t.tl t.hd (by simp [mv, c, d])
theorem st_Web_init (a0 : V) : L2.start n_Web_init [a0] = [some a0] := rfl
theorem pure_Web_init {w : World} {K : PySem.W.Frag} {mg : Str → Option Value} (T : Tx w K mg) (vs : List V) (H : Hp) (Q : VK) (E : XK) (h : sp_Web_init K vs H Q E) : t_Web_init K { nx := fun _ H' => Q .non H', rt := Q } (start n_Web_init vs) H := by
  show t_Web_init K (D0 Q) (start n_Web_init vs) H
  unfold t_Web_init
  obtain ⟨p, dx, rfl, h1, q⟩ := h
  walk_at "w"
  refine new_l (by decide) fun lc H1 n1 s1 e1 => ?_
  walk_at "w"
  refine set_f (s1 _ _ h1) T.c_Web T.n_Web_crowd (by decide) ?_
  walk_at "w"
  have a1 : lc ≠ p := (ne_of_none h1 n1).symm
  refine v_dnew fun ld H2 n2 s2 e2 => ?_
  walk_at "w"
  have hp2 := s2 _ _ (upd_same (H := H1) (a := p) (o := .ins (He.ga K "Web") dx (putF "crowd" (.ref lc) [])))
  refine set_f hp2 T.c_Web T.n_Web_tied (show 1 < 1000 by decide) ?_
  walk_at "w"
  refine set_f upd_same T.c_Web T.n_Web_last_given (show 2 < 1000 by decide) ?_
  walk_at "w"
  have m : p ∈ [p] := List.mem_singleton.mpr rfl
  have b1 : ld ≠ p := by
    rintro rfl
    rw [upd_same] at n2
    cases n2
  have b2 : H2 lc = some (.lst []) := s2 _ _ (by rw [L2.upd_ne a1]; exact e1)
  have c1 : ld ≠ lc := by
    rintro rfl
    rw [b2] at e2
    cases e2
  refine q lc ld _ n1 ?_ ((((Keep.of s1).put m).trans (Keep.of s2) |>.put m).put m) ⟨⟨dx, upd_same⟩, ?_, [], rfl, ?_, fun y hy => nomatch hy⟩
  · by_cases z : H ld = none
    · exact z
    · exfalso
      obtain ⟨o, ho⟩ := Option.ne_none_iff_exists'.mp z
      have := s1 _ _ ho
      rw [L2.upd_ne b1, this] at n2
      cases n2
  · rw [L2.upd_ne a1, L2.upd_ne a1]
    exact b2
  · rw [L2.upd_ne b1, L2.upd_ne b1]
    exact e2
theorem st_Web_points (a0 : V) : L2.start n_Web_points [a0] = [some a0] := rfl
theorem pure_Web_points {w : World} {K : PySem.W.Frag} {mg : Str → Option Value} (T : Tx w K mg) (vs : List V) (H : Hp) (Q : VK) (E : XK) (h : sp_Web_points K vs H Q E) : t_Web_points K { nx := fun _ H' => Q .non H', rt := Q } (start n_Web_points vs) H := by
  show t_Web_points K (D0 Q) (start n_Web_points vs) H
  unfold t_Web_points
  obtain ⟨p, lc, ld, w, rfl, hw, q⟩ := h
  walk_at "w"
  exact list_l hw.cr q
theorem st_Web_given (a0 : V) : L2.start n_Web_given [a0] = [some a0] := rfl
theorem pure_Web_given {w : World} {K : PySem.W.Frag} {mg : Str → Option Value} (T : Tx w K mg) (vs : List V) (H : Hp) (Q : VK) (E : XK) (h : sp_Web_given K vs H Q E) : t_Web_given K { nx := fun _ H' => Q .non H', rt := Q } (start n_Web_given vs) H := by
  show t_Web_given K (D0 Q) (start n_Web_given vs) H
  unfold t_Web_given
  obtain ⟨p, lc, ld, w, rfl, hw, q⟩ := h
  walk_at "w"
  exact q
theorem st_Web_ties (a0 : V) : L2.start n_Web_ties [a0] = [some a0, none] := rfl
theorem pure_Web_ties {w : World} {K : PySem.W.Frag} {mg : Str → Option Value} (T : Tx w K mg) (vs : List V) (H : Hp) (Q : VK) (E : XK) (h : sp_Web_ties K vs H Q E) : t_Web_ties K { nx := fun _ H' => Q .non H', rt := Q } (start n_Web_ties vs) H := by
  show t_Web_ties K (D0 Q) (start n_Web_ties vs) H
  unfold t_Web_ties
  obtain ⟨p, lc, ld, w, rfl, hw, hl, hs, q⟩ := h
  walk_at "w"
  obtain ⟨ys, e1, e2, e3⟩ := hw.td
  refine list_d e2 fun a H1 na s1 ea => ?_
  walk_at "w"
  have el : ys.length = w.ties.length := by rw [← e1, List.length_map]
  refine sorted_i (ns := ys.map (·.2.num)) (by rw [ea, List.map_map, List.map_map]; rfl) (by rw [List.length_map]; omega) (by rw [nums_of e1, List.pairwise_map]; exact hs) fun b H2 nb s2 eb => ?_
  have s12 := s1.trans s2
  refine l_list ys (fun y => .int y.2.num) (fun y => some (.ref y.1)) (.inl (.inl (by rw [eb, List.map_map]; rfl))) (by omega) (fun y hy H3 s3 N k => ?_) (fun d H3 nd s3 ed => ?_)
  · have hw3 := hw.up (s12.trans s3)
    walk_at "w"
    refine get_i (s3 _ _ (s12 _ _ e2)) (valV_at (k := fun y : AT => (Sum.inl y.2.num : Key)) (v := fun y => V.ref y.1) (keys_nd e1 hs) hy) (k _ (Same.refl _))
  · walk_at "w"
    have nd0 : H d = none := s12.free nd
    exact q d H3 nd0 (s12.trans s3) ⟨ys, e1, by rw [ed, List.filterMap_eq_map'], fun y hy => (e3 y hy).up (s12.trans s3)⟩
theorem st_Web_need_point (a0 a1 : V) : L2.start n_Web_need_point [a0, a1] = [some a0, some a1] := rfl
theorem pure_Web_need_point {w : World} {K : PySem.W.Frag} {mg : Str → Option Value} (T : Tx w K mg) (vs : List V) (H : Hp) (Q : VK) (E : XK) (h : sp_Web_need_point K vs H Q E) : t_Web_need_point K { nx := fun _ H' => Q .non H', rt := Q } (start n_Web_need_point vs) H := by
  show t_Web_need_point K (D0 Q) (start n_Web_need_point vs) H
  unfold t_Web_need_point
  obtain ⟨p, lc, ld, w, n, rfl, hw, hn, q⟩ := h
  walk_at "w"
  refine hw.in_crowd ?_
  walk_at "w"
  refine if_bF (by rw [decide_eq_true hn]; rfl) ?_
  walk_at "w"
  exact q
theorem st_Web_need_new (a0 a1 : V) : L2.start n_Web_need_new [a0, a1] = [some a0, some a1] := rfl
theorem pure_Web_need_new {w : World} {K : PySem.W.Frag} {mg : Str → Option Value} (T : Tx w K mg) (vs : List V) (H : Hp) (Q : VK) (E : XK) (h : sp_Web_need_new K vs H Q E) : t_Web_need_new K { nx := fun _ H' => Q .non H', rt := Q } (start n_Web_need_new vs) H := by
  show t_Web_need_new K (D0 Q) (start n_Web_need_new vs) H
  unfold t_Web_need_new
  obtain ⟨p, lc, ld, w, n, rfl, hw, ok, hn, q⟩ := h
  walk_at "w"
  refine ⟨n, rfl, ok, fun H1 s1 => ?_⟩
  have hw1 := hw.up s1
  walk_at "w"
  refine hw1.in_crowd ?_
  walk_at "w"
  refine if_bF (decide_eq_false hn) ?_
  walk_at "w"
  exact q _ s1
theorem st_Web_need_room (a0 : V) : L2.start n_Web_need_room [a0] = [some a0] := rfl
theorem pure_Web_need_room {w : World} {K : PySem.W.Frag} {mg : Str → Option Value} (T : Tx w K mg) (vs : List V) (H : Hp) (Q : VK) (E : XK) (h : sp_Web_need_room K vs H Q E) : t_Web_need_room K { nx := fun _ H' => Q .non H', rt := Q } (start n_Web_need_room vs) H := by
  show t_Web_need_room K (D0 Q) (start n_Web_need_room vs) H
  unfold t_Web_need_room
  obtain ⟨p, lc, ld, w, rfl, hw, hl, q⟩ := h
  walk_at "w"
  refine hw.len_crowd ?_
  walk_at "w"
  refine if_dF (by omega) ?_
  walk_at "w"
  exact q
theorem st_Web_put_point (a0 a1 : V) : L2.start n_Web_put_point [a0, a1] = [some a0, some a1] := rfl
theorem pure_Web_put_point {w : World} {K : PySem.W.Frag} {mg : Str → Option Value} (T : Tx w K mg) (vs : List V) (H : Hp) (Q : VK) (E : XK) (h : sp_Web_put_point K vs H Q E) : t_Web_put_point K { nx := fun _ H' => Q .non H', rt := Q } (start n_Web_put_point vs) H := by
  show t_Web_put_point K (D0 Q) (start n_Web_put_point vs) H
  unfold t_Web_put_point
  obtain ⟨p, lc, ld, w, n, rfl, hw, ok, hn, hl, q⟩ := h
  walk_at "w"
  refine ⟨p, lc, ld, w, n, rfl, hw, ok, hn, fun H1 s1 => ?_⟩
  have hw1 := hw.up s1
  walk_at "w"
  refine ⟨p, lc, ld, w, rfl, hw1, hl, ?_⟩
  walk_at "w"
  refine bm_l hw1.cr ?_
  walk_at "w"
  refine app_l hw1.cr (by rw [List.length_map]; omega) ?_
  walk_at "w"
  have e : w.names.map V.str ++ [V.str n] = (w.names ++ [n]).map V.str := by rw [List.map_append]; rfl
  rw [e]
  exact q _ ((Keep.of s1).put (List.mem_singleton.mpr rfl)) (hw1.put_cr (w.names ++ [n]))
section
variable {K : PySem.W.Frag} {H H' : Hp} {p lc ld : Addr} {w : Wr} {Q : VK} {σ : L2.St} {v x y : V} {D : Ends} {td ty tx te : TE}
theorem mk_tie {t : Tr} (h : ∀ q H', H q = none → Same H H' → TieAt K H' q t → Q (.ref q) H') : MkR (He.ga K "Tie") (sp_Tie_init K) [.int t.num, .str t.tl, .str t.hd, .int t.load, .bl t.ow] E0 H Q := by
  intro p' dx' n1 n2 n3
  refine ⟨p', dx', t, rfl, upd_same, fun H1 k1 e1 => ⟨rfl, h p' H1 n1 (fun c o hc => ?_) ⟨dx', e1⟩⟩⟩
  have c1 : c ≠ p' := ne_of_none hc n1
  have c2 : c ≠ dx' := ne_of_none hc n2
  exact k1 c o (by simpa using c1) (by rw [L2.upd_ne c1, L2.upd_ne c2]; exact hc)
def IsDR (x : V) (H : Hp) (q : Addr → Prop) : Prop := ∃ a, x = .ref a ∧ IsD H a ∧ q a
theorem isd_k {kvs : List (Key × V)} {a : Addr} {q : Addr → Prop} (h : H a = some (.dK kvs)) (z : q a) : IsDR (.ref a) H q := ⟨a, rfl, .inl ⟨kvs, .inl h⟩, z⟩
def PopK (a : Addr) (y : V) (H : Hp) (Q : VK) : Prop := ∃ kvs k v, H a = some (.dK kvs) ∧ y = kV k ∧ valV kvs k = some v ∧ Q v (upd H a (.dK (dropK kvs k)))
theorem v_pop (h : td σ H fun x H1 => IsDR x H1 fun a => ty σ H1 fun y H2 => PopK a y H2 Q) : tDPop1 td ty σ H Q := h
theorem first_at : ∀ {ns : List Str} {k : Str}, k ∈ ns → ∃ j : Nat, ns[j]? = some k ∧ ∀ m : Nat, m < j → ns[m]? ≠ some k
  | a :: l, k, h => by
    by_cases c : a = k
    · exact ⟨0, by rw [c]; rfl, fun m hm => absurd hm (Nat.not_lt_zero _)⟩
    · rcases List.mem_cons.mp h with e | h
      · exact absurd e.symm c
      · obtain ⟨j, h1, h2⟩ := first_at h
        refine ⟨j + 1, h1, fun m hm => ?_⟩
        cases m with
        | zero => exact fun e => c (Option.some.inj e)
        | succ m => exact h2 m (by omega)
theorem rem_s {l : Addr} {ns : List Str} {k : Str} (h : H l = some (.lst (ns.map V.str))) (m : k ∈ ns) (q : Q .non (upd H l (.lst ((ns.erase k).map V.str)))) : mRemS (.ref l) [.str k] H Q := by
  obtain ⟨j, h1, h2⟩ := first_at m
  exact ⟨l, ns, k, j, rfl, rfl, h, h1, h2, by rw [eraseIdx_erase h1 h2]; exact q⟩
theorem index_s {l : Addr} {ns : List Str} {k : Str} (h : H l = some (.lst (ns.map V.str))) (m : k ∈ ns) (q : ∀ j : Nat, ns[j]? = some k → Q (.int j) H) : rIndex K (.ref l) [.str k] H Q := by
  obtain ⟨j, h1, h2⟩ := first_at m
  refine ⟨l, _, _, j, .str k, rfl, rfl, .inl (.inl h), rfl, flat_str _, by rw [List.getElem?_map, h1]; rfl, by simp [eqV], fun i z hi hz => ?_, q j h1⟩
  rw [List.getElem?_map] at hz
  cases e : ns[i]? with
  | none => rw [e] at hz; cases hz
  | some u =>
    rw [e] at hz
    cases hz
    have : u ≠ k := fun c => h2 i hi (by rw [e, c])
    simp [eqV, this]
theorem set_l {l : Addr} {xs : List V} {j : Nat} {q : Hp → Prop} (h : H l = some (.lst xs)) (hj : j < xs.length) (z : q (upd H l (.lst (xs.set j v)))) : rSetL (.ref l) (.int j) v H q := by
  refine ⟨l, xs, j, j, rfl, rfl, h, ?_, z⟩
  unfold ixN
  rw [if_pos (Int.natCast_nonneg j), if_pos (Int.ofNat_lt.mpr hj), Int.toNat_natCast]
/-- a tie is put where one of its number stands -/
theorem WebAt.put_old (h : WebAt K H p lc ld w) (hl : w.ties.length ≤ 1000) {t : Tr} {a : Addr} (ht : TieAt K H a t) (m : t.num ∈ w.ties.map (·.num)) {z : Hp → Prop}
    (k : ∀ H', Keep [ld] H H' → WebAt K H' p lc ld { w with ties := w.ties.map fun u => if u.num = t.num then t else u } → z H') : PutR (.ref a) (.ref ld) (.int t.num) H z := by
  obtain ⟨ys, e1, e2, e3⟩ := h.td
  have el : ys.length = w.ties.length := by rw [← e1, List.length_map]
  refine put_i e2 (by rw [List.length_map]; omega) ?_
  rw [putK_old (k := fun y : AT => (Sum.inl y.2.num : Key)) (v := fun y => V.ref y.1)]
  · let zs : List AT := ys.map fun y => if y.2.num = t.num then (a, t) else y
    have ez : (ys.map fun y : AT => ((Sum.inl y.2.num : Key), if (Sum.inl y.2.num : Key) = Sum.inl t.num then V.ref a else V.ref y.1)) = tiesD zs := by
      show _ = (ys.map _).map _
      rw [List.map_map]
      refine List.map_congr_left fun y _ => ?_
      dsimp only [Function.comp]
      by_cases c : y.2.num = t.num
      · rw [if_pos c, if_pos (by rw [c]), c]
      · rw [if_neg c, if_neg fun e => c (Sum.inl.inj e)]
    have e4 : zs.map (·.2) = w.ties.map fun u => if u.num = t.num then t else u := by
      rw [← e1, List.map_map, List.map_map]
      refine List.map_congr_left fun y _ => ?_
      dsimp only [Function.comp]
      split <;> rfl
    rw [ez]
    have r := h.put_td zs fun y hy => by
      obtain ⟨u, hu, e⟩ := List.mem_map.mp hy
      by_cases c : u.2.num = t.num
      · rw [if_pos c] at e
        rw [← e]; exact ht
      · rw [if_neg c] at e
        rw [← e]; exact e3 u hu
    rw [e4] at r
    exact k _ ((Keep.refl _ _).put (List.mem_singleton.mpr rfl)) r
  · rw [← nums_of e1] at m
    obtain ⟨y, hy, e⟩ := List.mem_map.mp m
    exact List.mem_map.mpr ⟨y, hy, by rw [e]⟩
theorem WebAt.put_new (h : WebAt K H p lc ld w) (hl : w.ties.length ≤ 1000) {t : Tr} {a : Addr} (ht : TieAt K H a t) (m : ∀ u ∈ w.ties, u.num ≠ t.num) {z : Hp → Prop}
    (k : ∀ H', Keep [ld] H H' → WebAt K H' p lc ld { w with ties := w.ties ++ [t] } → z H') : PutR (.ref a) (.ref ld) (.int t.num) H z := by
  obtain ⟨ys, e1, e2, e3⟩ := h.td
  have el : ys.length = w.ties.length := by rw [← e1, List.length_map]
  refine put_i e2 (by rw [List.length_map]; omega) ?_
  rw [putK_new (k := fun y : AT => (Sum.inl y.2.num : Key)) (v := fun y => V.ref y.1) fun y hy e => m y.2 (by rw [← e1]; exact List.mem_map_of_mem hy) (Sum.inl.inj e)]
  have r := h.put_td (ys ++ [(a, t)]) fun y hy => by
    rcases List.mem_append.mp hy with hy | hy
    · exact e3 y hy
    · rw [List.mem_singleton.mp hy]; exact ht
  rw [List.map_append, e1] at r
  have e5 : tiesD (ys ++ [(a, t)]) = tiesD ys ++ [(Sum.inl t.num, V.ref a)] := List.map_append
  rw [e5] at r
  exact k _ ((Keep.refl _ _).put (List.mem_singleton.mpr rfl)) r
theorem WebAt.pop (h : WebAt K H p lc ld w) (s : w.ties.Pairwise fun a b => a.num < b.num) {t : Tr} (ht : t ∈ w.ties) (q : ∀ v H', Keep [ld] H H' → WebAt K H' p lc ld (w.dropTie t.num) → Q v H') : PopK ld (.int t.num) H Q := by
  obtain ⟨ys, e1, e2, e3⟩ := h.td
  have ht' := ht
  rw [← e1] at ht'
  obtain ⟨y, hy, e⟩ := List.mem_map.mp ht'
  refine ⟨_, .inl t.num, _, e2, rfl, ?_, q (V.ref y.1) _ ((Keep.refl _ _).put (List.mem_singleton.mpr rfl)) ?_⟩
  · have := valV_at (k := fun y : AT => (Sum.inl y.2.num : Key)) (v := fun y => V.ref y.1) (keys_nd e1 s) hy
    rw [← e]; exact this
  · rw [dropK_map (k := fun y : AT => (Sum.inl y.2.num : Key)) (v := fun y => V.ref y.1)]
    have r := h.put_td (ys.filter fun y => decide ((Sum.inl y.2.num : Key) ≠ Sum.inl t.num)) fun y hy => e3 y (List.mem_filter.mp hy).1
    have e4 : (ys.filter fun y => decide ((Sum.inl y.2.num : Key) ≠ Sum.inl t.num)).map (·.2) = w.ties.filter fun u => decide (u.num ≠ t.num) := by
      rw [← e1, List.filter_map]
      congr 1
      refine List.filter_congr fun y _ => ?_
      refine decide_eq_decide.mpr ⟨fun h e => h (by rw [show y.2.num = t.num from e]), fun h e => h (Sum.inl.inj e)⟩
    rw [e4] at r
    exact r
theorem WebAt.put_gv (h : WebAt K H p lc ld w) {dx : Addr} (e : H p = some (.ins (He.ga K "Web") dx (webF lc ld w.given))) (n : Int) : WebAt K (upd H p (.ins (He.ga K "Web") dx (webF lc ld n))) p lc ld { w with given := n } := by
  obtain ⟨ys, e1, e2, e3⟩ := h.td
  refine ⟨⟨dx, upd_same⟩, by rw [L2.upd_ne h.p_lc.symm]; exact h.cr, ys, e1, by rw [L2.upd_ne h.p_ld.symm]; exact e2, fun y hy => ?_⟩
  by_cases c : y.1 = p
  · obtain ⟨d, f⟩ := e3 y hy
    rw [c, e] at f
    exact absurd (show (3 : Nat) = 5 from congrArg (fun o : Option HO => match o with | some (.ins _ _ fs) => fs.length | _ => 0) f) (by decide)
  · exact (e3 y hy).upd_ne c
theorem WebAt.set_gv (T : Tx wd K mg) (h : WebAt K H p lc ld w) {n : Int} {z : Hp → Prop} (k : ∀ H', Keep [p] H H' → WebAt K H' p lc ld { w with given := n } → z H') : SetF K "last_given" (.int n) (.ref p) H z := by
  obtain ⟨dx, e⟩ := h.ob
  exact set_f e T.c_Web T.n_Web_last_given (show 3 < 1000 by decide) (k _ ((Keep.refl _ _).put (List.mem_singleton.mpr rfl)) (h.put_gv e n))
/-- two names, is one of them -/
theorem in_ends {a : Addr} {n b c : Str} {neg : Bool} (h : H a = some (.tup [.str b, .str c])) (q : Q (.bl (if neg then !decide (n ∈ [b, c]) else decide (n ∈ [b, c]))) H) : rIn K neg (.str n) (.ref a) H Q :=
  in_t h rfl (flat_str [b, c]) (by rw [show [V.str b, V.str c] = [b, c].map V.str from rfl, inV_str]; exact q)
end
theorem map_at {l1 l2 : List Tr} {t t' : Tr} {n : Int} (h : (l1 ++ t :: l2).Pairwise fun a b => a.num < b.num) (e : t.num = n) : (l1 ++ t :: l2).map (fun u => if u.num = n then t' else u) = l1 ++ t' :: l2 := by
  obtain ⟨h1, h2, h3⟩ := List.pairwise_append.mp h
  obtain ⟨h4, h5⟩ := List.pairwise_cons.mp h2
  rw [List.map_append, List.map_cons, if_pos e]
  congr 1
  · refine (List.map_congr_left fun u hu => ?_).trans (List.map_id _)
    have := h3 u hu t List.mem_cons_self
    exact if_neg (by omega)
  · congr 1
    refine (List.map_congr_left fun u hu => ?_).trans (List.map_id _)
    have := h4 u hu
    exact if_neg (by omega)
theorem st_Web_tie_of (a0 a1 : V) : L2.start n_Web_tie_of [a0, a1] = [some a0, some a1] := rfl
theorem pure_Web_tie_of {w : World} {K : PySem.W.Frag} {mg : Str → Option Value} (T : Tx w K mg) (vs : List V) (H : Hp) (Q : VK) (E : XK) (h : sp_Web_tie_of K vs H Q E) : t_Web_tie_of K { nx := fun _ H' => Q .non H', rt := Q } (start n_Web_tie_of vs) H := by
  show t_Web_tie_of K (D0 Q) (start n_Web_tie_of vs) H
  unfold t_Web_tie_of
  obtain ⟨p, lc, ld, w, t, rfl, hw, hs, ht, q⟩ := h
  walk_at "w"
  refine ⟨t.num, rfl, ?_⟩
  walk_at "w"
  refine hw.in_tied ?_
  walk_at "w"
  refine if_bF (by rw [decide_eq_true (List.mem_map_of_mem ht)]; rfl) ?_
  walk_at "w"
  exact hw.get_tie hs ht q
theorem st_Web_give (a0 a1 : V) : L2.start n_Web_give [a0, a1] = [some a0, some a1] := rfl
theorem pure_Web_give {w : World} {K : PySem.W.Frag} {mg : Str → Option Value} (T : Tx w K mg) (vs : List V) (H : Hp) (Q : VK) (E : XK) (h : sp_Web_give K vs H Q E) : t_Web_give K { nx := fun _ H' => Q .non H', rt := Q } (start n_Web_give vs) H := by
  show t_Web_give K (D0 Q) (start n_Web_give vs) H
  unfold t_Web_give
  obtain ⟨p, lc, ld, w, n, rfl, hw, q⟩ := h
  walk_at "w"
  exact hw.set_gv T q
theorem st_Web_move_all (a0 a1 a2 : V) : L2.start n_Web_move_all [a0, a1, a2] = [some a0, some a1, some a2, none] := rfl
theorem pure_Web_move_all {w : World} {K : PySem.W.Frag} {mg : Str → Option Value} (T : Tx w K mg) (vs : List V) (H : Hp) (Q : VK) (E : XK) (h : sp_Web_move_all K vs H Q E) : t_Web_move_all K { nx := fun _ H' => Q .non H', rt := Q } (start n_Web_move_all vs) H := by
  show t_Web_move_all K (D0 Q) (start n_Web_move_all vs) H
  unfold t_Web_move_all
  obtain ⟨p, lc, ld, w, a, b, rfl, hw, hl, hs, q⟩ := h
  walk_at "w"
  refine ⟨p, lc, ld, w, rfl, hw, hl, hs, fun l H1 nl s1 ⟨ys, e1, e2, e3⟩ => ?_⟩
  have hw1 := hw.up s1
  have ne1 : l ≠ ld := by
    obtain ⟨zs, _, f, _⟩ := hw1.td
    exact ne_obj e2 f (by intro e; cases e)
  have ne2 : ∀ y ∈ ys, y.1 ≠ ld := by
    obtain ⟨zs, _, f, _⟩ := hw1.td
    exact fun y hy => (e3 y hy).ne f (by intro C dx fs e; cases e)
  let st : Option V → L2.St := fun o => (L2.start n_Web_move_all [.ref p, .str a, .str b]).set 3 o
  let P : List AT → L2.St → Hp → Prop := fun done σ H' => (∃ o, σ = st o) ∧ Keep [ld] H1 H' ∧ WebAt K H' p lc ld { w with ties := done.map (fun y => mv a b y.2) ++ (ys.drop done.length).map (·.2) }
  have up : ∀ {H' : Hp}, Keep [ld] H1 H' → H' l = some (.lst (ys.map fun y => V.ref y.1)) ∧ ∀ y ∈ ys, TieAt K H' y.1 y.2 := fun k => ⟨k _ _ (by simpa using ne1) e2, fun y hy => let ⟨dx, h⟩ := e3 y hy; ⟨dx, k _ _ (by simpa using ne2 y hy) h⟩⟩
  refine f_list ys (fun y => V.ref y.1) P (.inl (.inl e2)) ⟨⟨none, rfl⟩, Keep.refl _ _, by rw [List.length_nil, List.drop_zero, e1]; exact hw1⟩ (fun _ _ _ H' _ h => .inl (.inl (up h.2.1).1)) (fun done y rest σ H' ey h => ?_) (fun σ H' h => ?_)
  · obtain ⟨⟨o, rfl⟩, k1, hw2⟩ := h
    have hy : y ∈ ys := by rw [ey]; simp
    have ht := (up k1).2 y hy
    have ed : ys.drop done.length = y :: rest := by rw [ey, List.drop_left]
    rw [ed, List.map_cons] at hw2
    walk_at "w"
    refine ⟨y.1, y.2, a, b, rfl, ht, fun d H2 nd s2 ht2 => ?_⟩
    have hw3 := hw2.up s2
    have ht3 := ht.up s2
    walk_at "w"
    have hs3 : (done.map (fun y => mv a b y.2) ++ y.2 :: rest.map (·.2)).Pairwise fun a b => a.num < b.num := by
      have e : ys.map (·.2.num) = (done.map (fun y => mv a b y.2) ++ y.2 :: rest.map (·.2)).map (·.num) := by
        rw [ey]; simp [mv, Function.comp_def]
      have h := hs
      rw [← List.pairwise_map (f := fun t : Tr => t.num) (R := fun a b => a < b), ← nums_of e1, e, List.pairwise_map] at h
      exact h
    have hl3 : (done.map (fun y => mv a b y.2) ++ y.2 :: rest.map (·.2)).length ≤ 1000 := by
      have := congrArg List.length ey
      rw [← e1, List.length_map] at hl
      simp only [List.length_append, List.length_cons, List.length_map] at this ⊢
      omega
    refine hw3.put_old hl3 ht2 (List.mem_map.mpr ⟨y.2, by simp, rfl⟩) fun H3 k3 hw4 => ?_
    walk_at "w"
    refine ⟨⟨_, rfl⟩, (k1.trans (Keep.of s2)).trans k3, ?_⟩
    rw [show (mv a b y.2).num = y.2.num from rfl, map_at hs3 rfl] at hw4
    have ed2 : ys.drop (done ++ [y]).length = rest := by rw [ey, List.length_append, List.length_singleton, ← List.drop_drop, List.drop_left]; rfl
    rw [ed2, List.map_append, List.append_assoc]
    exact hw4
  · obtain ⟨_, k1, hw2⟩ := h
    walk_at "w"
    refine q _ ((Keep.of s1).trans k1) ?_
    rw [List.drop_length, List.map_nil, List.append_nil] at hw2
    rw [← e1, List.map_map]
    exact hw2
theorem st_Web_rename (a0 a1 a2 : V) : L2.start n_Web_rename [a0, a1, a2] = [some a0, some a1, some a2] := rfl
theorem pure_Web_rename {w : World} {K : PySem.W.Frag} {mg : Str → Option Value} (T : Tx w K mg) (vs : List V) (H : Hp) (Q : VK) (E : XK) (h : sp_Web_rename K vs H Q E) : t_Web_rename K { nx := fun _ H' => Q .non H', rt := Q } (start n_Web_rename vs) H := by
  show t_Web_rename K (D0 Q) (start n_Web_rename vs) H
  unfold t_Web_rename
  obtain ⟨p, lc, ld, w, a, b, rfl, hw, ok, ha, okb, hb, q⟩ := h
  walk_at "w"
  refine ⟨p, lc, ld, w, a, rfl, hw, ha, ?_⟩
  walk_at "w"
  refine ⟨p, lc, ld, w, b, rfl, hw, okb, hb, fun H1 s1 => ?_⟩
  have hw1 := hw.up s1
  walk_at "w"
  refine v_sub ?_
  walk_at "w"
  refine bm_l hw1.cr ?_
  walk_at "w"
  refine index_s hw1.cr ha fun j hj => ?_
  refine set_l hw1.cr (by rw [List.length_map]; exact (List.getElem?_eq_some_iff.mp hj).1) ?_
  have e : (w.names.map V.str).set j (.str b) = (w.names.map fun z => if z = a then b else z).map V.str := by rw [← List.map_set, set_map ok.nd hj]
  rw [e]
  have hw2 := hw1.put_cr (w.names.map fun z => if z = a then b else z)
  have k2 : Keep [lc, ld] H1 (upd H1 lc (.lst ((w.names.map fun z => if z = a then b else z).map V.str))) := (Keep.refl _ _).put List.mem_cons_self
  walk_at "w"
  refine ⟨p, lc, ld, _, a, b, rfl, hw2, ok.tlen, ok.srt, fun H3 k3 hw3 => ?_⟩
  walk_at "w"
  exact q _ (((Keep.of s1).trans k2).trans (k3.mono fun c hc => by rw [List.mem_singleton.mp hc]; simp)) hw3
theorem st_Web_put_numbered (a0 a1 a2 a3 a4 a5 : V) : L2.start n_Web_put_numbered [a0, a1, a2, a3, a4, a5] = [some a0, some a1, some a2, some a3, some a4, some a5] := rfl
theorem pure_Web_put_numbered {w : World} {K : PySem.W.Frag} {mg : Str → Option Value} (T : Tx w K mg) (vs : List V) (H : Hp) (Q : VK) (E : XK) (h : sp_Web_put_numbered K vs H Q E) : t_Web_put_numbered K { nx := fun _ H' => Q .non H', rt := Q } (start n_Web_put_numbered vs) H := by
  show t_Web_put_numbered K (D0 Q) (start n_Web_put_numbered vs) H
  unfold t_Web_put_numbered
  obtain ⟨p, lc, ld, w, t, rfl, hw, hn, ha, hb, ne, h0, h1, hl, q⟩ := h
  walk_at "w"
  refine ⟨p, lc, ld, w, t.tl, rfl, hw, ha, ?_⟩
  walk_at "w"
  refine ⟨p, lc, ld, w, t.hd, rfl, hw, hb, ?_⟩
  walk_at "w"
  refine if_dF ne ?_
  walk_at "w"
  refine ⟨t.load, rfl, h0, h1, ?_⟩
  walk_at "w"
  refine hw.len_tied ?_
  walk_at "w"
  refine if_dF (by omega) ?_
  walk_at "w"
  refine mk_tie fun a H1 na s1 ht => ?_
  have hw1 := hw.up s1
  walk_at "w"
  refine hw1.put_new (by omega) ht (fun u hu => hn u hu) fun H2 k2 hw2 => ?_
  walk_at "w"
  refine hw2.set_gv T fun H3 k3 hw3 => ?_
  walk_at "w"
  exact q _ (((Keep.of s1).trans (k2.mono fun c hc => by rw [List.mem_singleton.mp hc]; simp)).trans (k3.mono fun c hc => by rw [List.mem_singleton.mp hc]; simp)) hw3
theorem st_Web_put_tie (a0 a1 a2 a3 a4 : V) : L2.start n_Web_put_tie [a0, a1, a2, a3, a4] = [some a0, some a1, some a2, some a3, some a4] := rfl
theorem pure_Web_put_tie {w : World} {K : PySem.W.Frag} {mg : Str → Option Value} (T : Tx w K mg) (vs : List V) (H : Hp) (Q : VK) (E : XK) (h : sp_Web_put_tie K vs H Q E) : t_Web_put_tie K { nx := fun _ H' => Q .non H', rt := Q } (start n_Web_put_tie vs) H := by
  show t_Web_put_tie K (D0 Q) (start n_Web_put_tie vs) H
  unfold t_Web_put_tie
  obtain ⟨p, lc, ld, w, a, b, l, o, rfl, hw, ok, ha, hb, ne, h0, h1, hl, q⟩ := h
  walk_at "w"
  refine ⟨p, lc, ld, w, ⟨w.given + 1, a, b, l, o⟩, rfl, hw, fun u hu => ?_, ha, hb, ne, h0, h1, hl, fun H1 k1 hw1 => ?_⟩
  · have := (ok.tie u hu).high
    show u.num ≠ w.given + 1
    omega
  · walk_at "w"
    exact q _ k1 hw1
theorem st_Web_drop_tie (a0 a1 : V) : L2.start n_Web_drop_tie [a0, a1] = [some a0, some a1] := rfl
theorem pure_Web_drop_tie {w : World} {K : PySem.W.Frag} {mg : Str → Option Value} (T : Tx w K mg) (vs : List V) (H : Hp) (Q : VK) (E : XK) (h : sp_Web_drop_tie K vs H Q E) : t_Web_drop_tie K { nx := fun _ H' => Q .non H', rt := Q } (start n_Web_drop_tie vs) H := by
  show t_Web_drop_tie K (D0 Q) (start n_Web_drop_tie vs) H
  unfold t_Web_drop_tie
  obtain ⟨p, lc, ld, w, t, rfl, hw, hs, ht, q⟩ := h
  walk_at "w"
  refine ⟨p, lc, ld, w, t, rfl, hw, hs, ht, fun d hd => ?_⟩
  walk_at "w"
  refine v_pop ?_
  walk_at "w"
  obtain ⟨ys, e1, e2, e3⟩ := hw.td
  refine isd_k e2 ?_
  walk_at "w"
  refine hw.pop hs ht fun v H1 k1 hw1 => ?_
  walk_at "w"
  exact q _ k1 hw1
theorem st_Web_set_load (a0 a1 a2 : V) : L2.start n_Web_set_load [a0, a1, a2] = [some a0, some a1, some a2, none] := rfl
theorem pure_Web_set_load {w : World} {K : PySem.W.Frag} {mg : Str → Option Value} (T : Tx w K mg) (vs : List V) (H : Hp) (Q : VK) (E : XK) (h : sp_Web_set_load K vs H Q E) : t_Web_set_load K { nx := fun _ H' => Q .non H', rt := Q } (start n_Web_set_load vs) H := by
  show t_Web_set_load K (D0 Q) (start n_Web_set_load vs) H
  unfold t_Web_set_load
  obtain ⟨p, lc, ld, w, t, l, rfl, hw, hs, hl, ht, h0, h1, q⟩ := h
  walk_at "w"
  refine ⟨p, lc, ld, w, t, rfl, hw, hs, ht, fun d hd => ?_⟩
  walk_at "w"
  refine ⟨l, rfl, h0, h1, ?_⟩
  walk_at "w"
  refine mk_tie (t := { t with load := l }) fun a H1 na s1 hta => ?_
  have hw1 := hw.up s1
  walk_at "w"
  refine hw1.put_old (by omega) hta (List.mem_map_of_mem (f := (·.num)) ht) fun H2 k2 hw2 => ?_
  walk_at "w"
  refine q _ ((Keep.of s1).trans k2) ?_
  have e : (w.ties.map fun u => if u.num = t.num then { t with load := l } else u) = w.ties.map fun u => if u.num = t.num then { u with load := l } else u := by
    refine List.map_congr_left fun u hu => ?_
    by_cases c : u.num = t.num
    · rw [if_pos c, if_pos c, num_inj hs hu ht c]
    · rw [if_neg c, if_neg c]
  dsimp only at hw2
  rw [e] at hw2
  exact hw2
section
variable {K : PySem.W.Frag} {H : Hp} {l : Addr} {ts : List Tr} {Q : VK}
theorem TiesL.nodes (h : TiesL K H l ts) : ∃ ys : List AT, ys.map (·.2) = ts ∧ SqL K H l (ys.map fun y => V.ref y.1) ∧ ∀ y ∈ ys, TieAt K H y.1 y.2 := let ⟨ys, e1, e2, e3⟩ := h; ⟨ys, e1, .inl (.inl e2), e3⟩
end
theorem drop_at {α : Type} {done rest ys : List α} {y : α} (h : ys = done ++ y :: rest) : ys.drop done.length = y :: rest ∧ ys.drop (done ++ [y]).length = rest := by
  subst h
  exact ⟨List.drop_left, by rw [List.length_append, List.length_singleton, ← List.drop_drop, List.drop_left]; rfl⟩
theorem st_Web_drop_point (a0 a1 : V) : L2.start n_Web_drop_point [a0, a1] = [some a0, some a1, none] := rfl
theorem pure_Web_drop_point {w : World} {K : PySem.W.Frag} {mg : Str → Option Value} (T : Tx w K mg) (vs : List V) (H : Hp) (Q : VK) (E : XK) (h : sp_Web_drop_point K vs H Q E) : t_Web_drop_point K { nx := fun _ H' => Q .non H', rt := Q } (start n_Web_drop_point vs) H := by
  show t_Web_drop_point K (D0 Q) (start n_Web_drop_point vs) H
  unfold t_Web_drop_point
  obtain ⟨p, lc, ld, w, n, rfl, hw, ok, hn, hf, q⟩ := h
  walk_at "w"
  refine ⟨p, lc, ld, w, n, rfl, hw, hn, ?_⟩
  walk_at "w"
  refine ⟨p, lc, ld, w, rfl, hw, ok.tlen, ok.srt, fun l H1 nl s1 ⟨ys, e1, e2, e3⟩ => ?_⟩
  have el : ys.length ≤ 48 := by have := ok.tlen; rw [← e1, List.length_map] at this; exact this
  refine l_list ys (fun y => .ref y.1) (fun y => some (.bl (decide (n ∈ [y.2.tl, y.2.hd])))) (.inl (.inl e2)) (by omega) (fun y hy H2 s2 N k => ?_) (fun d H2 nd s2 ed => ?_)
  · have ht := (e3 y hy).up s2
    walk_at "w"
    refine new_l (by simp) fun a H3 na s3 ea => ?_
    refine in_ends ea ?_
    exact k _ s3
  · walk_at "w"
    rw [List.filterMap_eq_map', ← Function.comp_def (f := V.bl), ← List.map_map] at ed
    refine r_any ed ?_
    walk_at "w"
    have hw2 := (hw.up s1).up s2
    refine if_bF ?_ ?_
    · rw [List.any_map, List.any_eq_false]
      intro y hy
      have := hf y.2 (by rw [← e1]; exact List.mem_map_of_mem hy)
      simp [this.1.symm, this.2.symm]
    · walk_at "w"
      refine bm_l hw2.cr ?_
      walk_at "w"
      refine rem_s hw2.cr hn ?_
      walk_at "w"
      exact q _ ((Keep.of (s1.trans s2)).put (List.mem_singleton.mpr rfl)) (hw2.put_cr _)
theorem st_Web_join (a0 a1 a2 : V) : L2.start n_Web_join [a0, a1, a2] = [some a0, some a1, some a2, none] := rfl
theorem pure_Web_join {w : World} {K : PySem.W.Frag} {mg : Str → Option Value} (T : Tx w K mg) (vs : List V) (H : Hp) (Q : VK) (E : XK) (h : sp_Web_join K vs H Q E) : t_Web_join K { nx := fun _ H' => Q .non H', rt := Q } (start n_Web_join vs) H := by
  show t_Web_join K (D0 Q) (start n_Web_join vs) H
  unfold t_Web_join
  obtain ⟨p, lc, ld, w, a, b, rfl, hw, ok, ha, hb, ne, q⟩ := h
  walk_at "w"
  refine ⟨p, lc, ld, w, a, rfl, hw, ha, ?_⟩
  walk_at "w"
  refine ⟨p, lc, ld, w, b, rfl, hw, hb, ?_⟩
  walk_at "w"
  refine if_dF ne ?_
  walk_at "w"
  refine ⟨p, lc, ld, w, rfl, hw, ok.tlen, ok.srt, fun l H1 nl s1 ⟨ys, e1, e2, e3⟩ => ?_⟩
  have hw1 := hw.up s1
  have ne1 : l ≠ ld := by
    obtain ⟨zs, _, f, _⟩ := hw1.td
    exact ne_obj e2 f (by intro e; cases e)
  have ne2 : ∀ y ∈ ys, y.1 ≠ ld := by
    obtain ⟨zs, _, f, _⟩ := hw1.td
    exact fun y hy => (e3 y hy).ne f (by intro C dx fs e; cases e)
  let st : Option V → L2.St := fun o => (L2.start n_Web_join [.ref p, .str a, .str b]).set 3 o
  let P : List AT → L2.St → Hp → Prop := fun done σ H' => (∃ o, σ = st o) ∧ Keep [ld] H1 H' ∧ WebAt K H' p lc ld { w with ties := (done.map (·.2)).filter (fun t => !between a b t) ++ (ys.drop done.length).map (·.2) }
  have up : ∀ {H' : Hp}, Keep [ld] H1 H' → H' l = some (.lst (ys.map fun y => V.ref y.1)) ∧ ∀ y ∈ ys, TieAt K H' y.1 y.2 := fun k => ⟨k _ _ (by simpa using ne1) e2, fun y hy => let ⟨dx, h⟩ := e3 y hy; ⟨dx, k _ _ (by simpa using ne2 y hy) h⟩⟩
  refine f_list ys (fun y => V.ref y.1) P (.inl (.inl e2)) ⟨⟨none, rfl⟩, Keep.refl _ _, by rw [List.length_nil, List.drop_zero, e1]; exact hw1⟩ (fun _ _ _ H' _ h => .inl (.inl (up h.2.1).1)) (fun done y rest σ H' ey h => ?_) (fun σ H' h => ?_)
  · obtain ⟨⟨o, rfl⟩, k1, hw2⟩ := h
    have hy : y ∈ ys := by rw [ey]; simp
    have ht := (up k1).2 y hy
    obtain ⟨ed, ed2⟩ := drop_at ey
    rw [ed, List.map_cons] at hw2
    have hs3 : ((done.map (·.2)).filter (fun t => !between a b t) ++ y.2 :: rest.map (·.2)).Pairwise fun a b => a.num < b.num := by
      have h := ok.srt
      rw [← e1, ey, List.map_append, List.map_cons] at h
      exact h.sublist (List.Sublist.append_right List.filter_sublist _)
    have keepIt : ∀ H3, Keep [ld] H' H3 → WebAt K H3 p lc ld { w with ties := (done.map (·.2)).filter (fun t => !between a b t) ++ y.2 :: rest.map (·.2) } → between a b y.2 = false → P (done ++ [y]) (st (some (.ref y.1))) H3 := by
      intro H3 k3 hw3 hb
      refine ⟨⟨_, rfl⟩, k1.trans k3, ?_⟩
      rw [ed2, List.map_append, List.filter_append]
      have : ([y].map (·.2)).filter (fun t => !between a b t) = [y.2] := by simp [hb]
      rw [this, List.append_assoc]
      exact hw3
    have nb : ∀ n m : Str, decide (n ∈ [y.2.tl, y.2.hd]) = (decide (y.2.tl = n) || decide (y.2.hd = n)) := by
      intro n m
      rw [Bool.eq_iff_iff, Bool.or_eq_true, decide_eq_true_iff, decide_eq_true_iff, decide_eq_true_iff, List.mem_cons, List.mem_singleton]
      exact ⟨fun h => h.imp Eq.symm Eq.symm, fun h => h.imp Eq.symm Eq.symm⟩
    walk_at "w"
    refine new_l (by simp) fun c H2 nc s2 ec => ?_
    refine in_ends ec ?_
    walk_at "w"
    have hw3 := hw2.up s2
    cases c1 : decide (a ∈ [y.2.tl, y.2.hd]) with
    | false =>
      walk_at "w"
      refine keepIt H2 (Keep.of s2) hw3 ?_
      rw [nb a a] at c1
      unfold between
      rw [c1]; rfl
    | true =>
      have ht2 := ht.up s2
      walk_at "w"
      refine new_l (by simp) fun c H3 nc s3 ec => ?_
      refine in_ends ec ?_
      have hw4 := hw3.up s3
      have ht3 := ht2.up s3
      rw [nb a a] at c1
      walk_at "w"
      cases c2 : decide (b ∈ [y.2.tl, y.2.hd]) with
      | false =>
        walk_at "w"
        refine keepIt H3 (Keep.of (s2.trans s3)) hw4 ?_
        rw [nb b b] at c2
        unfold between
        rw [c1, c2]; rfl
      | true =>
        rw [nb b b] at c2
        walk_at "w"
        refine v_pop ?_
        walk_at "w"
        obtain ⟨zs, z1, z2, z3⟩ := hw4.td
        refine isd_k z2 ?_
        walk_at "w"
        refine hw4.pop hs3 (by simp) fun v H5 k5 hw5 => ?_
        walk_at "w"
        refine ⟨⟨_, rfl⟩, (k1.trans (Keep.of (s2.trans s3))).trans k5, ?_⟩
        rw [ed2, List.map_append, List.filter_append]
        have : ([y].map (·.2)).filter (fun t => !between a b t) = [] := by
          have : between a b y.2 = true := by unfold between; rw [c1, c2]; rfl
          simp [this]
        rw [this, List.append_nil]
        have e6 : ((done.map (·.2)).filter (fun t => !between a b t) ++ y.2 :: rest.map (·.2)).filter (fun t => decide (t.num ≠ y.2.num)) = (done.map (·.2)).filter (fun t => !between a b t) ++ rest.map (·.2) := by
          obtain ⟨h1, h2, h3⟩ := List.pairwise_append.mp hs3
          obtain ⟨h4, h5⟩ := List.pairwise_cons.mp h2
          rw [List.filter_append, List.filter_cons_of_neg (by simp)]
          congr 1
          · refine List.filter_eq_self.mpr fun u hu => decide_eq_true ?_
            have := h3 u hu y.2 List.mem_cons_self
            omega
          · refine List.filter_eq_self.mpr fun u hu => decide_eq_true ?_
            have := h4 u hu
            omega
        unfold Wb.dropTie at hw5
        dsimp only at hw5
        rw [e6] at hw5
        exact hw5
  · obtain ⟨⟨o, rfl⟩, k1, hw2⟩ := h
    rw [List.drop_length, List.map_nil, List.append_nil, e1] at hw2
    walk_at "w"
    have hok : WOk { w with ties := w.ties.filter fun t => !between a b t } := wok_sub ok List.filter_sublist
    refine ⟨p, lc, ld, _, b, a, rfl, hw2, hok.tlen, hok.srt, fun H3 k3 hw3 => ?_⟩
    walk_at "w"
    refine bm_l hw3.cr ?_
    walk_at "w"
    refine rem_s hw3.cr hb ?_
    walk_at "w"
    refine q _ ?_ (hw3.put_cr _)
    exact (((Keep.of s1).trans (k1.trans k3)).mono fun c hc => by rw [List.mem_singleton.mp hc]; simp).put (by simp)
theorem st_Web_part (a0 a1 a2 a3 : V) : L2.start n_Web_part [a0, a1, a2, a3] = [some a0, some a1, some a2, some a3, none, none, none] := rfl
theorem pure_Web_part {w : World} {K : PySem.W.Frag} {mg : Str → Option Value} (T : Tx w K mg) (vs : List V) (H : Hp) (Q : VK) (E : XK) (h : sp_Web_part K vs H Q E) : t_Web_part K { nx := fun _ H' => Q .non H', rt := Q } (start n_Web_part vs) H := by
  show t_Web_part K (D0 Q) (start n_Web_part vs) H
  unfold t_Web_part
  obtain ⟨p, lc, ld, l, w, a, b, us, rfl, hw, ok, ha, okb, hb, hl, nl, el, nd, hus, q⟩ := h
  walk_at "w"
  refine ⟨p, lc, ld, w, a, rfl, hw, ha, ?_⟩
  walk_at "w"
  refine ⟨p, lc, ld, w, b, rfl, hw, okb, hb, fun H1 s1 => ?_⟩
  have hw1 := hw.up s1
  have el1 := s1 _ _ el
  walk_at "w"
  refine ⟨p, lc, ld, w, rfl, hw1, hl, ?_⟩
  walk_at "w"
  refine new_l (by simp) fun m H2 nm s2 em => ?_
  have hw2 := hw1.up s2
  have el2 := s2 _ _ el1
  have nml : m ≠ l := (ne_of_none el1 nm).symm
  have nmc : m ≠ lc := (ne_of_none hw1.cr nm).symm
  walk_at "w"
  let st : Option V → Option V → L2.St := fun o o' => (((L2.start n_Web_part [.ref p, .str a, .str b, .ref l]).set 4 (some (.ref m))).set 5 o).set 6 o'
  let P : List Tr → L2.St → Hp → Prop := fun done σ H' => (∃ o o', σ = st o o') ∧ Keep [m] H2 H' ∧ H' m = some (.lst (done.map fun t => V.int t.num))
  have web : ∀ {H'}, Keep [m] H2 H' → WebAt K H' p lc ld w := by
    intro H' k
    have fr : ∀ c o, H1 c = some o → H' c = some o := fun c o h => k c o (by rw [List.mem_singleton]; exact ne_of_none h nm) (s2 _ _ h)
    exact ⟨let ⟨dx, h⟩ := hw1.ob; ⟨dx, fr _ _ h⟩, fr _ _ hw1.cr, let ⟨ys, h1, h2, h3⟩ := hw1.td; ⟨ys, h1, fr _ _ h2, fun y hy => let ⟨dx, h⟩ := h3 y hy; ⟨dx, fr _ _ h⟩⟩⟩
  have lst : ∀ {H'}, Keep [m] H2 H' → H' l = some (.lst (us.map fun t => V.int t.num)) := fun k => k _ _ (by rw [List.mem_singleton]; exact nml.symm) el2
  have ul : us.length ≤ 1000 := by
    have := length_le_of_subset nd (m := w.ties.map (·.num)) fun x hx => by
      obtain ⟨u, hu, e⟩ := List.mem_map.mp hx
      exact List.mem_map.mpr ⟨u, (hus u hu).1, e⟩
    rw [List.length_map, List.length_map] at this
    have := ok.tlen
    omega
  refine f_list us (fun t => V.int t.num) P (.inl (.inl el2)) ⟨⟨none, none, rfl⟩, Keep.refl _ _, em⟩ (fun _ _ _ H' _ h => .inl (.inl (lst h.2.1))) (fun done u rest σ H' ey h => ?_) (fun σ H' h => ?_)
  · obtain ⟨⟨o, o', rfl⟩, k1, em1⟩ := h
    have hw3 := web k1
    have hu : u ∈ us := by rw [ey]; simp
    walk_at "w"
    refine ⟨p, lc, ld, w, u, rfl, hw3, ok.srt, (hus u hu).1, fun c ht => ?_⟩
    walk_at "w"
    refine new_l (by simp) fun d H3 nd3 s3 ed => ?_
    refine in_ends ed ?_
    walk_at "w"
    have hin : a ∈ [u.tl, u.hd] := by rcases (hus u hu).2 with h | h <;> simp [h]
    refine if_nF hin ?_
    have em3 := s3 _ _ em1
    walk_at "w"
    have em4 : H3 m = some (.lst ((done.map (·.num)).map V.int)) := by rw [em3, List.map_map]; rfl
    refine in_l em4 rfl (flat_int _) ?_
    rw [inV_int]
    walk_at "w"
    have hd : u.num ∉ done.map (·.num) := by
      rw [ey, List.map_append, List.map_cons] at nd
      have := (List.nodup_append.mp nd).2.2
      exact fun h => this _ h _ List.mem_cons_self rfl
    refine if_dF hd ?_
    walk_at "w"
    have dl : done.length ≤ 1000 := by
      have := congrArg List.length ey
      rw [List.length_append] at this
      omega
    refine app_l em3 (by rw [List.length_map]; omega) ?_
    walk_at "w"
    refine ⟨⟨_, _, rfl⟩, ((k1.trans (Keep.of s3)).put (List.mem_singleton.mpr rfl)), ?_⟩
    rw [List.map_append]
    exact upd_same
  · obtain ⟨⟨o, o', rfl⟩, k1, em1⟩ := h
    have hw3 := web k1
    walk_at "w"
    refine bm_l hw3.cr ?_
    walk_at "w"
    refine app_l hw3.cr (by rw [List.length_map]; omega) ?_
    have e : w.names.map V.str ++ [V.str b] = (w.names ++ [b]).map V.str := by rw [List.map_append]; rfl
    rw [e]
    have hw4 := hw3.put_cr (w.names ++ [b])
    have em4 : (upd H' lc (.lst ((w.names ++ [b]).map V.str))) m = some (.lst (us.map fun t => V.int t.num)) := by rw [L2.upd_ne nmc]; exact em1
    have k4 : Keep [m, lc] H2 (upd H' lc (.lst ((w.names ++ [b]).map V.str))) := (k1.mono fun c hc => by rw [List.mem_singleton.mp hc]; simp).put (by simp)
    generalize upd H' lc (.lst ((w.names ++ [b]).map V.str)) = H4 at hw4 em4 k4
    walk_at "w"
    have nmd : m ≠ ld := by
      obtain ⟨ys, _, f, _⟩ := hw1.td
      exact (ne_of_none f nm).symm
    let st2 : Option V → Option V → L2.St := fun o o' => (((L2.start n_Web_part [.ref p, .str a, .str b, .ref l]).set 4 (some (.ref m))).set 5 o).set 6 o'
    let P2 : List Tr → L2.St → Hp → Prop := fun done σ H' => (∃ o o', σ = st2 o o') ∧ Keep [ld] H4 H' ∧ WebAt K H' p lc ld { w with names := w.names ++ [b], ties := w.ties.map fun t => if t.num ∈ done.map (·.num) then mv a b t else t }
    refine f_list us (fun t => V.int t.num) P2 (.inl (.inl em4)) ⟨⟨_, _, rfl⟩, Keep.refl _ _, ?_⟩ (fun _ _ _ H' _ h => .inl (.inl (h.2.1 _ _ (by rw [List.mem_singleton]; exact nmd) em4))) (fun done u rest σ H5 ey h => ?_) (fun σ H5 h => ?_)
    · have e : (w.ties.map fun t => if t.num ∈ ([] : List Tr).map (·.num) then mv a b t else t) = w.ties := by simp
      rw [e]
      exact hw4
    · obtain ⟨⟨o, o', rfl⟩, k5, hw5⟩ := h
      have hu : u ∈ us := by rw [ey]; simp
      have hd : u.num ∉ done.map (·.num) := by
        rw [ey, List.map_append, List.map_cons] at nd
        have := (List.nodup_append.mp nd).2.2
        exact fun h => this _ h _ List.mem_cons_self rfl
      have nm0 : ∀ t : Tr, (if t.num ∈ done.map (·.num) then mv a b t else t).num = t.num := fun t => by split <;> rfl
      have srt5 := pairwise_map_num (f := fun t => if t.num ∈ done.map (·.num) then mv a b t else t) ok.srt nm0
      have hu5 : u ∈ w.ties.map fun t => if t.num ∈ done.map (·.num) then mv a b t else t := List.mem_map.mpr ⟨u, (hus u hu).1, if_neg hd⟩
      walk_at "w"
      refine hw5.get_tie srt5 hu5 fun c hc => ?_
      walk_at "w"
      refine ⟨c, u, a, b, rfl, hc, fun d H6 nd6 s6 ht6 => ?_⟩
      have hw6 := hw5.up s6
      walk_at "w"
      refine hw6.put_old (by dsimp only; rw [List.length_map]; have := ok.tlen; omega) ht6 (List.mem_map.mpr ⟨u, hu5, rfl⟩) fun H7 k7 hw7 => ?_
      walk_at "w"
      refine ⟨⟨_, _, rfl⟩, (k5.trans (Keep.of s6)).trans k7, ?_⟩
      have e : ((w.ties.map fun t => if t.num ∈ done.map (·.num) then mv a b t else t).map fun t => if t.num = (mv a b u).num then mv a b u else t) = w.ties.map fun t => if t.num ∈ (done ++ [u]).map (·.num) then mv a b t else t := by
        rw [List.map_map]
        refine List.map_congr_left fun t ht => ?_
        dsimp only [Function.comp]
        rw [nm0, List.map_append, List.map_cons, List.map_nil]
        by_cases c1 : t.num = u.num
        · rw [if_pos (show t.num = (mv a b u).num from c1), if_pos (by rw [List.mem_append, c1]; simp), num_inj ok.srt ht (hus u hu).1 c1]
        · rw [if_neg (show ¬ t.num = (mv a b u).num from c1)]
          by_cases c2 : t.num ∈ done.map (·.num)
          · rw [if_pos c2, if_pos (List.mem_append_left _ c2)]
          · rw [if_neg c2, if_neg (by rw [List.mem_append, List.mem_singleton]; exact fun h => h.elim c2 c1)]
      rw [e] at hw7
      exact hw7
    · obtain ⟨_, k5, hw5⟩ := h
      walk_at "w"
      refine q _ ?_ hw5
      intro c o hc ho
      have n1 : c ≠ lc := fun e => hc (by rw [e]; simp)
      have n2 : c ≠ ld := fun e => hc (by rw [e]; simp)
      have h1 := s1 _ _ ho
      have n3 : c ≠ m := ne_of_none h1 nm
      exact k5 _ _ (by rw [List.mem_singleton]; exact n2) (k4 _ _ (by simp [n1, n3]) (s2 _ _ h1))
section
variable {K : PySem.W.Frag} {H H' H0 : Hp} {d : Addr} {B : Adj Str} {ys : List (Addr × Str)} {Q : VK} {σ : L2.St} {v x y z : V} {D : Ends} {ta td ty tx te : TE} {s1 : TS} {c : TT}
def WhN (W : Nat → L2.St → Hp → Prop) (m : Nat) (s1 : TS) (D : Ends) (σ : L2.St) (H : Hp) : Prop := ∃ N : L2.St → Hp → Prop, (∀ σ2 H2, N σ2 H2 → ∃ m', m' < m ∧ W m' σ2 H2) ∧ s1 { D with nx := N, ct := N, bk := D.nx } σ H
theorem wh_n {W : Nat → L2.St → Hp → Prop} {m : Nat} (h : s1 (dFor (fun σ2 H2 => ∃ m', m' < m ∧ W m' σ2 H2) D) σ H) : WhN W m s1 D σ H := ⟨_, fun _ _ h => h, h⟩
theorem v_while (W : Nat → L2.St → Hp → Prop) (m0 : Nat) (h0 : W m0 σ H) (step : ∀ m σ' H', W m σ' H' → c σ' H' fun b H1 => if b = true then WhN W m s1 D σ' H1 else D.nx σ' H1) : tWhile c s1 D σ H := ⟨W, ⟨m0, h0⟩, step⟩
def SetdR (a : Addr) (y z : V) (H : Hp) (Q : VK) : Prop := ∃ (kvs : List (Key × V)) (k : Key), H a = some (.dK kvs) ∧ y = kV k ∧ kvs.length < sizeLine ∧ (∀ v, valV kvs k = some v → Q v H) ∧ (valV kvs k = none → Q z (upd H a (.dK (putK kvs k z))))
theorem v_setd (h : td σ H fun x H1 => IsDR x H1 fun a => ty σ H1 fun y H2 => tx σ H2 fun z H3 => SetdR a y z H3 Q) : tDSetd td ty tx σ H Q := h
def Get2R (a : Addr) (y z : V) (H : Hp) (Q : VK) : Prop := ∃ o, DGet H a y o ∧ Q (o.getD z) H
theorem v_get2 (h : td σ H fun x H1 => IsDR x H1 fun a => ty σ H1 fun y H2 => tx σ H2 fun z H3 => Get2R a y z H3 Q) : tDGet2 td ty tx σ H Q := h
theorem get2_s {a : Addr} {kvs : List (Key × V)} {n : Str} (h : H a = some (.dK kvs)) (q : Q ((valV kvs (.inr n)).getD z) H) : Get2R a (.str n) z H Q := ⟨_, .inl ⟨kvs, .inr n, .inl h, rfl, rfl⟩, q⟩
def UpdR (a : Addr) (y : V) (H : Hp) (Q : VK) : Prop := ∃ (b : Addr) (ka kb : List (Key × V)), y = .ref b ∧ a ≠ b ∧ H a = some (.dK ka) ∧ H b = some (.dK kb) ∧ ka.length + kb.length ≤ sizeLine ∧ Q .non (upd H a (.dK (mergeK ka kb)))
theorem v_dupd (h : td σ H fun x H1 => IsDR x H1 fun a => te σ H1 fun y H2 => UpdR a y H2 Q) : tDUpd td te σ H Q := h
def AugR (ti : TIp) (x y : V) (H : Hp) (Q : VK) : Prop := ti x y H Q
theorem v_aug {i : Nat} {ti : TIp} (h : σ[i]? = some (some x)) (q : te σ H fun y H1 => AugR ti x y H1 fun z H2 => D.nx (σ.set i (some z)) H2) : tAug i te ti D σ H := ⟨x, h, q⟩
theorem aug_i {f : Int → Int → Int} {m n : Int} (q : Q (.int (f m n)) H) : AugR (ipI f) (.int m) (.int n) H Q := ⟨m, n, rfl, rfl, q⟩
/-- one address has changed -/
def Only (a : Addr) (H H' : Hp) : Prop := ∀ c, c ≠ a → H' c = H c
theorem Only.upd {a : Addr} {o : HO} : Only a H (upd H a o) := fun c h => L2.upd_ne h
theorem Only.same {a : Addr} (o : Only a H H') (s : Same H0 H) (n : H0 a = none) : Same H0 H' := fun c u h => by rw [o c (ne_of_none h n)]; exact s c u h
/-- who is beside whom, on lists of its own -/
structure BesS (H0 H : Hp) (d : Addr) (B : Adj Str) (ys : List (Addr × Str)) : Prop where
  d0 : H0 d = none
  dk : H d = some (.dK (ys.map fun y => (Sum.inr y.2, V.ref y.1)))
  nd : (ys.map (·.2)).Nodup
  na : (ys.map (·.1)).Nodup
  own : ∀ y ∈ ys, H0 y.1 = none
  pr : ∀ y ∈ ys, PrL H y.1 (B y.2)
  out : ∀ x, x ∉ ys.map (·.2) → B x = []
theorem BesS.bes (h : BesS H0 H d B ys) : Bes H d B := ⟨ys, h.dk, h.nd, h.pr, h.out⟩
theorem BesS.up (h : BesS H0 H d B ys) (s : Same H H') : BesS H0 H' d B ys := ⟨h.d0, s _ _ h.dk, h.nd, h.na, h.own, fun y hy => (h.pr y hy).up s, h.out⟩
theorem keysS_nd (h : (ys.map (·.2)).Nodup) : (ys.map fun y => (Sum.inr y.2 : Key)).Nodup := by
  rw [List.nodup_iff_pairwise_ne] at h ⊢
  rw [List.pairwise_map] at h ⊢
  exact h.imp fun h e => h (Sum.inr.inj e)
theorem PrL.only {a : Addr} {p : Addr} {ps : List (Int × Str)} {u : HO} (h : PrL H p ps) (ne : p ≠ a) (e : H a = some u) (nt : ∀ xs, u ≠ .tup xs) (o : Only a H H') : PrL H' p ps := by
  obtain ⟨zs, h1, h2, h3⟩ := h
  exact ⟨zs, h1, by rw [o _ ne]; exact h2, fun z hz => by rw [o _ (ne_obj (h3 z hz) e fun q => nt _ q.symm)]; exact h3 z hz⟩
theorem BesS.setd (h : BesS H0 H d B ys) (l : ys.length ≤ 1000) {a : Addr} {n : Str} (ea : H a = some (.lst [])) (n0 : H0 a = none) (nf : ∀ y ∈ ys, y.1 ≠ a)
    (q : ∀ ys' y H', ys'.length ≤ ys.length + 1 → Only d H H' → BesS H0 H' d B ys' → y ∈ ys' → y.2 = n → Q (.ref y.1) H') : SetdR d (.str n) (.ref a) H Q := by
  refine ⟨_, .inr n, h.dk, rfl, by rw [List.length_map]; exact sz' (by omega), fun v hv => ?_, fun hv => ?_⟩
  · have := valV_isS (ys := ys) (f := fun y => y.2) (v := fun y => V.ref y.1) (n := n)
    rw [hv] at this
    obtain ⟨y, hy, e⟩ := List.mem_map.mp (of_decide_eq_true this.symm)
    have e2 := valV_at (k := fun y : Addr × Str => (Sum.inr y.2 : Key)) (v := fun y => V.ref y.1) (keysS_nd h.nd) hy
    rw [e] at e2
    rw [e2] at hv
    rw [← Option.some.inj hv]
    exact q ys y H (by omega) (fun _ _ => rfl) h hy e
  · have nk : n ∉ ys.map (·.2) := fun m => by
      have := valV_isS (ys := ys) (f := fun y => y.2) (v := fun y => V.ref y.1) (n := n)
      rw [hv] at this
      exact absurd m (of_decide_eq_false this.symm)
    have nad : a ≠ d := ne_obj ea h.dk (by intro e; cases e)
    rw [putK_new (k := fun y : Addr × Str => (Sum.inr y.2 : Key)) (v := fun y => V.ref y.1) fun y hy e => nk (List.mem_map.mpr ⟨y, hy, Sum.inr.inj e⟩)]
    have e5 : ys.map (fun y => ((Sum.inr y.2 : Key), V.ref y.1)) ++ [(Sum.inr n, V.ref a)] = (ys ++ [(a, n)]).map fun y => (Sum.inr y.2, V.ref y.1) := by rw [List.map_append]; rfl
    rw [e5]
    have oo : Only d H (upd H d (.dK ((ys ++ [(a, n)]).map fun y => (Sum.inr y.2, V.ref y.1)))) := Only.upd
    refine q (ys ++ [(a, n)]) (a, n) _ (by simp) oo ⟨h.d0, upd_same, ?_, ?_, ?_, ?_, ?_⟩ (by simp) rfl
    · rw [List.map_append]
      exact nodup_snoc h.nd nk
    · rw [List.map_append]
      exact nodup_snoc h.na fun m => by
        obtain ⟨y, hy, e⟩ := List.mem_map.mp m
        exact nf y hy e
    · intro y hy
      rcases List.mem_append.mp hy with hy | hy
      · exact h.own y hy
      · rw [List.mem_singleton.mp hy]; exact n0
    · intro y hy
      rcases List.mem_append.mp hy with hy | hy
      · obtain ⟨zs, _, f, _⟩ := h.pr y hy
        exact (h.pr y hy).only (ne_obj f h.dk (by intro e; cases e)) h.dk (by intro xs e; cases e) oo
      · rw [List.mem_singleton.mp hy]
        dsimp only
        rw [h.out n nk]
        exact ⟨[], rfl, by rw [oo _ nad]; exact ea, fun z hz => nomatch hz⟩
    · intro x hx
      exact h.out x fun m => hx (by rw [List.map_append]; exact List.mem_append_left _ m)
theorem BesS.app (h : BesS H0 H d B ys) {y : Addr × Str} (hy : y ∈ ys) {t : Addr} {n : Int} {g : Str} (et : H t = some (.tup [.int n, .str g])) (l : (B y.2).length ≤ 1000)
    (q : ∀ H', Only y.1 H H' → BesS H0 H' d (fun x => if x = y.2 then B x ++ [(n, g)] else B x) ys → Q .non H') : rAppend (.ref y.1) [.ref t] H Q := by
  obtain ⟨zs, z1, z2, z3⟩ := h.pr y hy
  have zl : zs.length = (B y.2).length := by rw [← z1, List.length_map]
  refine app_l z2 (by rw [List.length_map]; omega) ?_
  have e : zs.map (fun z => V.ref z.1) ++ [V.ref t] = (zs ++ [(t, n, g)]).map fun z => V.ref z.1 := by rw [List.map_append]; rfl
  rw [e]
  have oo : Only y.1 H (upd H y.1 (.lst ((zs ++ [(t, n, g)]).map fun z => V.ref z.1))) := Only.upd
  refine q _ oo ⟨h.d0, ?_, h.nd, h.na, h.own, fun u hu => ?_, fun x hx => ?_⟩
  · rw [oo _ (ne_obj h.dk z2 (by intro e; cases e))]
    exact h.dk
  · by_cases c : u.1 = y.1
    · have cu : u = y := by
        obtain ⟨i, hi⟩ := List.mem_iff_getElem?.mp hu
        obtain ⟨j, hj⟩ := List.mem_iff_getElem?.mp hy
        have nn := h.na
        have hi' : (ys.map (·.1))[i]? = some u.1 := by rw [List.getElem?_map, hi]; rfl
        have hj' : (ys.map (·.1))[j]? = some y.1 := by rw [List.getElem?_map, hj]; rfl
        rw [c] at hi'
        have := (List.getElem?_inj (List.getElem?_eq_some_iff.mp hi').1 nn).mp (hi'.trans hj'.symm)
        rw [this, hj] at hi
        exact (Option.some.inj hi).symm
      subst cu
      rw [if_pos rfl]
      exact ⟨zs ++ [(t, n, g)], by rw [List.map_append, z1]; rfl, upd_same, fun z hz => by
        rcases List.mem_append.mp hz with hz | hz
        · rw [oo _ (ne_obj (z3 z hz) z2 (by intro e; cases e))]; exact z3 z hz
        · rw [List.mem_singleton.mp hz, oo _ (ne_obj et z2 (by intro e; cases e))]; exact et⟩
    · have cs : u.2 ≠ y.2 := by
        intro e
        have k1 := valV_at (k := fun y : Addr × Str => (Sum.inr y.2 : Key)) (v := fun y => V.ref y.1) (keysS_nd h.nd) hu
        have k2 := valV_at (k := fun y : Addr × Str => (Sum.inr y.2 : Key)) (v := fun y => V.ref y.1) (keysS_nd h.nd) hy
        rw [e, k2] at k1
        have := Option.some.inj k1
        injection this with this
        exact c this.symm
      rw [if_neg cs]
      exact (h.pr u hu).only c z2 (by intro xs e; cases e) oo
  · have : x ≠ y.2 := fun e => hx (List.mem_map.mpr ⟨y, hy, e.symm⟩)
    rw [if_neg this]
    exact h.out x hx
theorem adj_two (ts : List Tr) (t : Tr) : (fun x => if x = t.hd then (if x = t.tl then adjF ts x ++ [(t.num, t.hd)] else adjF ts x) ++ [(t.num, t.tl)] else if x = t.tl then adjF ts x ++ [(t.num, t.hd)] else adjF ts x) = adjF (ts ++ [t]) := by
  funext x
  rw [adjF_snoc]
  unfold adjT
  by_cases c1 : t.tl = x <;> by_cases c2 : t.hd = x
  · simp [c1, c2]
  · simp [c1, c2, Ne.symm c2]
  · simp [c1, c2, Ne.symm c1]
  · simp [c1, c2, Ne.symm c1, Ne.symm c2]
theorem adj_len : ∀ (ts : List Tr) (x : Str), (adjF ts x).length ≤ 2 * ts.length
  | [], x => Nat.le_refl _
  | t :: ts, x => by
    show (adjT t x ++ adjF ts x).length ≤ _
    have := adj_len ts x
    have h2 : (adjT t x).length ≤ 2 := by unfold adjT; split <;> split <;> simp
    rw [List.length_append, List.length_cons]
    omega
end
theorem st_ends_by (a0 : V) : L2.start n_ends_by [a0] = [some a0, none, none] := rfl
theorem pure_ends_by {w : World} {K : PySem.W.Frag} {mg : Str → Option Value} (T : Tx w K mg) (vs : List V) (H : Hp) (Q : VK) (E : XK) (h : sp_ends_by K vs H Q E) : t_ends_by K { nx := fun _ H' => Q .non H', rt := Q } (start n_ends_by vs) H := by
  show t_ends_by K (D0 Q) (start n_ends_by vs) H
  unfold t_ends_by
  obtain ⟨a, ts, rfl, ⟨ys, e1, e2, e3⟩, hl, hne, q⟩ := h
  rw [st_ends_by]
  walk_at "w"
  refine v_dnew fun d H1 nd s1 ed => ?_
  walk_at "w"
  have el : ys.length = ts.length := by rw [← e1, List.length_map]
  let st : Option V → L2.St := fun o => [some (.ref a), some (.ref d), o]
  let P : List AT → L2.St → Hp → Prop := fun done σ H' => (∃ o, σ = st o) ∧ Same H H' ∧ ∃ bs, bs.length ≤ 2 * done.length ∧ BesS H H' d (adjF (done.map (·.2))) bs
  refine f_list ys (fun y => V.ref y.1) P (.inl (.inl (s1 _ _ e2))) ⟨⟨none, rfl⟩, s1, [], Nat.le_refl _, nd, ed, List.nodup_nil, List.nodup_nil, fun y hy => (nomatch hy), fun y hy => (nomatch hy), fun x _ => rfl⟩ (fun _ _ _ H' _ h => .inl (.inl (h.2.1 _ _ e2))) (fun done y rest σ H' ey h => ?_) (fun σ H' h => ?_)
  · obtain ⟨⟨o, rfl⟩, s2, bs, bl, hb⟩ := h
    have hy : y ∈ ys := by rw [ey]; simp
    have dl : done.length ≤ 47 := by
      have := congrArg List.length ey
      rw [List.length_append, List.length_cons] at this
      omega
    have ht := (e3 y hy).up s2
    walk_at "w"
    refine v_setd ?_
    walk_at "w"
    refine isd_k hb.dk ?_
    walk_at "w"
    refine new_l (by simp) fun l3 H3 n3 s3 el3 => ?_
    have hb3 := hb.up s3
    refine hb3.setd (by omega) el3 (s2.free n3) (fun b hb0 => ?_) fun cs c H4 cl o4 hc hcm hcn => ?_
    · obtain ⟨_, _, f, _⟩ := hb.pr b hb0
      exact ne_of_none f n3
    have s4 : Same H H4 := o4.same (s2.trans s3) nd
    have ht4 := (e3 y hy).up s4
    obtain ⟨zs, _, zf, _⟩ := hc.pr c hcm
    refine bm_l zf ?_
    walk_at "w"
    refine new_l (by simp) fun t5 H5 n5 s5 et5 => ?_
    have hc5 := hc.up s5
    walk_at "w"
    refine hc5.app hcm et5 (by have := adj_len (done.map (·.2)) c.2; rw [List.length_map] at this; omega) fun H6 o6 hc6 => ?_
    have s6 : Same H H6 := o6.same (s4.trans s5) (hc.own c hcm)
    have ht6 := (e3 y hy).up s6
    rw [hcn] at hc6
    walk_at "w"
    refine v_setd ?_
    walk_at "w"
    refine isd_k hc6.dk ?_
    walk_at "w"
    refine new_l (by simp) fun l7 H7 n7 s7 el7 => ?_
    have hc7 := hc6.up s7
    refine hc7.setd (by omega) el7 (s6.free n7) (fun b hb0 => ?_) fun gs g H8 gl o8 hg hgm hgn => ?_
    · obtain ⟨_, _, f, _⟩ := hc6.pr b hb0
      exact ne_of_none f n7
    have s8 : Same H H8 := o8.same (s6.trans s7) nd
    have ht8 := (e3 y hy).up s8
    obtain ⟨zs, _, zf, _⟩ := hg.pr g hgm
    refine bm_l zf ?_
    walk_at "w"
    refine new_l (by simp) fun t9 H9 n9 s9 et9 => ?_
    have hg9 := hg.up s9
    walk_at "w"
    refine hg9.app hgm et9 ?_ fun H10 o10 hg10 => ?_
    · have := adj_len (done.map (·.2)) g.2
      rw [List.length_map] at this
      split
      · rw [List.length_append, List.length_singleton]; omega
      · omega
    have s10 : Same H H10 := o10.same (s8.trans s9) (hg.own g hgm)
    walk_at "w"
    refine ⟨⟨_, rfl⟩, s10, gs, by rw [List.length_append, List.length_singleton]; omega, ?_⟩
    rw [hgn, adj_two] at hg10
    rw [List.map_append]
    exact hg10
  · obtain ⟨⟨o, rfl⟩, s2, bs, bl, hb⟩ := h
    walk_at "w"
    rw [e1] at hb
    exact q d H' nd s2 hb.bes
section
variable {K : PySem.W.Frag} {H H' H0 : Hp} {d : Addr} {B : Adj Str} {F : Came Str} {Q : VK} {σ : L2.St} {v x y z : V} {D : Ends} {ta td ty tx te : TE} {s1 : TS} {c : TT} {n : Str}
def tupV (o : Option (Int × Str)) : V × V := match o with
  | none => (.non, .non)
  | some (n, h) => (.int n, .str h)
theorem tupO_eq (o : Option (Int × Str)) : tupO o = [(tupV o).1, (tupV o).2] := by cases o <;> rfl
theorem CameAt.in_s (h : CameAt H d F) {neg : Bool} (q : Q (.bl (if neg then !decide (n ∈ ckeys F) else decide (n ∈ ckeys F))) H) : InR neg (.str n) (.ref d) H Q := by
  obtain ⟨ys, e1, e2, e3⟩ := h
  refine RB.in_s e2 ?_
  have e : ys.map (fun y => y.2.1) = ckeys F := by rw [← e1]; unfold ckeys; rw [List.map_map]; rfl
  rw [valV_isS (f := fun y : Addr × Str × Option (Int × Str) => y.2.1), e]
  exact q
theorem CameAt.get (h : CameAt H d F) (nd : (ckeys F).Nodup) {i : Nat} {o : Option (Int × Str)} (hi : F[i]? = some (n, o)) (q : ∀ a, H a = some (.tup [(tupV o).1, (tupV o).2]) → Q (.ref a) H) : GetR (.ref d) (.str n) H Q := by
  obtain ⟨ys, e1, e2, e3⟩ := h
  have hi' := hi
  rw [← e1, List.getElem?_map] at hi'
  cases ej : ys[i]? with
  | none => rw [ej] at hi'; cases hi'
  | some y =>
    rw [ej] at hi'
    have ey : y.2 = (n, o) := Option.some.inj hi'
    have hy := List.mem_of_getElem? ej
    have nd' : (ys.map fun y => (Sum.inr y.2.1 : Key)).Nodup := by
      have e : ys.map (fun y => y.2.1) = ckeys F := by rw [← e1]; unfold ckeys; rw [List.map_map]; rfl
      rw [← e] at nd
      rw [List.nodup_iff_pairwise_ne] at nd ⊢
      rw [List.pairwise_map] at nd ⊢
      exact nd.imp fun h e => h (Sum.inr.inj e)
    have g := valV_at (k := fun y : Addr × Str × Option (Int × Str) => (Sum.inr y.2.1 : Key)) (v := fun y => V.ref y.1) nd' hy
    rw [ey] at g
    refine get_s e2 g (q _ ?_)
    have := e3 y hy
    rw [ey, tupO_eq] at this
    exact this
/-- one more is come to -/
theorem CameAt.put (h : CameAt H d F) (l : F.length ≤ 1000) (nn : n ∉ ckeys F) {t : Addr} {m : Int} {g : Str} (et : H t = some (.tup [.int m, .str g])) {q : Hp → Prop}
    (k : ∀ H', Only d H H' → CameAt H' d (F ++ [(n, some (m, g))]) → q H') : PutR (.ref t) (.ref d) (.str n) H q := by
  obtain ⟨ys, e1, e2, e3⟩ := h
  have el : ys.length = F.length := by rw [← e1, List.length_map]
  refine put_s e2 (by rw [List.length_map]; omega) ?_
  rw [putK_new (k := fun y : Addr × Str × Option (Int × Str) => (Sum.inr y.2.1 : Key)) (v := fun y => V.ref y.1) fun y hy e => nn (by
    rw [← e1]; unfold ckeys; rw [List.map_map]
    exact List.mem_map.mpr ⟨y, hy, Sum.inr.inj e⟩)]
  have e5 : ys.map (fun y => ((Sum.inr y.2.1 : Key), V.ref y.1)) ++ [(Sum.inr n, V.ref t)] = (ys ++ [(t, n, some (m, g))]).map fun y => (Sum.inr y.2.1, V.ref y.1) := by rw [List.map_append]; rfl
  rw [e5]
  have oo : Only d H (upd H d (.dK ((ys ++ [(t, n, some (m, g))]).map fun y => (Sum.inr y.2.1, V.ref y.1)))) := Only.upd
  refine k _ oo ⟨ys ++ [(t, n, some (m, g))], by rw [List.map_append, e1]; rfl, upd_same, fun z hz => ?_⟩
  rcases List.mem_append.mp hz with hz | hz
  · rw [oo _ (ne_obj (e3 z hz) e2 (by intro e; cases e))]; exact e3 z hz
  · rw [List.mem_singleton.mp hz, oo _ (ne_obj et e2 (by intro e; cases e))]; exact et
theorem CameAt.only {a : Addr} {u : HO} (h : CameAt H d F) (ne : d ≠ a) (e : H a = some u) (nt : ∀ xs, u ≠ .tup xs) (o : Only a H H') : CameAt H' d F := by
  obtain ⟨zs, h1, h2, h3⟩ := h
  exact ⟨zs, h1, by rw [o _ ne]; exact h2, fun z hz => by rw [o _ (ne_obj (h3 z hz) e fun q => nt _ q.symm)]; exact h3 z hz⟩
theorem CameAt.dk (h : CameAt H d F) : ∃ kvs, H d = some (.dK kvs) ∧ kvs.length = F.length := let ⟨zs, h1, h2, _⟩ := h; ⟨_, h2, by rw [List.length_map, ← h1, List.length_map]⟩
/-- whom one is beside -/
theorem Bes.get2 (h : Bes H0 d B) (s : Same H0 H) {a : Addr} (ea : H a = some (.lst [])) (q : ∀ b, PrL H b (B n) → (b = a ∨ H0 b ≠ none) → Q (.ref b) H) : Get2R d (.str n) (.ref a) H Q := by
  obtain ⟨ys, e1, e2, e3, e4⟩ := h
  refine get2_s (s _ _ e1) ?_
  cases hv : valV (ys.map fun y => ((Sum.inr y.2 : Key), V.ref y.1)) (Sum.inr n) with
  | some v =>
    have := valV_isS (ys := ys) (f := fun y => y.2) (v := fun y => V.ref y.1) (n := n)
    rw [hv] at this
    obtain ⟨y, hy, e⟩ := List.mem_map.mp (of_decide_eq_true this.symm)
    have k2 := valV_at (k := fun y : Addr × Str => (Sum.inr y.2 : Key)) (v := fun y => V.ref y.1) (keysS_nd e2) hy
    rw [e] at k2
    rw [k2] at hv
    rw [← Option.some.inj hv]
    have := e3 y hy
    rw [e] at this
    refine q y.1 (this.up s) (.inr ?_)
    obtain ⟨_, _, f, _⟩ := this
    rw [f]; exact fun e => nomatch e
  | none =>
    have nk : n ∉ ys.map (·.2) := fun m => by
      have := valV_isS (ys := ys) (f := fun y => y.2) (v := fun y => V.ref y.1) (n := n)
      rw [hv] at this
      exact absurd m (of_decide_eq_false this.symm)
    refine q a ?_ (.inl rfl)
    rw [e4 n nk]
    exact ⟨[], rfl, ea, fun z hz => nomatch hz⟩
def DispR (p : Addr) (ps : List (V × V)) (H : Hp) (Q : VK) : Prop := H p = some (.dK []) ∧ ∃ kvs : List (Key × V), ps = kvs.map (fun kv => (kV kv.1, kv.2)) ∧ kvs.length ≤ 15 ∧ Q (.ref p) (upd H p (.dK (mergeK [] kvs)))
theorem v_disp {trs : List (TE × TE)} (h : ∀ p H1, H p = none → Same H H1 → H1 p = some (.dK []) → tPairs trs σ H1 fun ps H2 => DispR p ps H2 Q) : tDisp trs σ H Q := fun p np => h p _ np (same_new np) upd_same
theorem v_pc {tk tv : TE} {r : List (TE × TE)} {q : List (V × V) → Hp → Prop} (h : tk σ H fun x H1 => tv σ H1 fun y H2 => tPairs r σ H2 fun ps H3 => q ((x, y) :: ps) H3) : tPairs ((tk, tv) :: r) σ H q := h
theorem v_pn {q : List (V × V) → Hp → Prop} (h : q [] H) : tPairs [] σ H q := h
theorem disp_r {p : Addr} {ps : List (V × V)} (kvs : List (Key × V)) (e : ps = kvs.map fun kv => (kV kv.1, kv.2)) (h : H p = some (.dK [])) (l : kvs.length ≤ 15) (q : ∀ H', Only p H H' → H' p = some (.dK (mergeK [] kvs)) → Q (.ref p) H') : DispR p ps H Q := ⟨h, kvs, e, l, q _ Only.upd upd_same⟩
end
theorem filterMap_if {α β : Type} (P : α → Bool) (f : α → β) : ∀ l : List α, l.filterMap (fun x => if P x = true then some (f x) else none) = (l.filter P).map f
  | [] => rfl
  | y :: l => by
    rw [List.filterMap_cons, List.filter_cons]
    cases P y
    · exact filterMap_if P f l
    · rw [if_pos rfl, if_pos rfl, List.map_cons, filterMap_if P f l]
/-- a comprehension that keeps some of a list's items -/
theorem l_filter {K : PySem.W.Frag} {H : Hp} {Q : VK} {σ : L2.St} {g : TG} {t : TT} {te : TE} {p : Addr} {β : Type} {vs : List Nat} (ys : List β) (enc : β → V) (P : β → Bool) (hx : SqL K H p (ys.map enc)) (hn : ys.length ≤ 100000)
    (turn : ∀ y ∈ ys, ∀ H', Same H H' → ∀ N : Option V → Hp → Prop, (∀ H3, Same H' H3 → P y = true → N (some (enc y)) H3) → (∀ H3, Same H' H3 → P y = false → N none H3) → Turn g t te vs σ (enc y) H' N)
    (fin : ∀ d H', H d = none → Same H H' → H' d = some (.lst ((ys.filter P).map enc)) → Q (.ref d) H') : ItL K (.ref p) H fun J H1 => LcK J g t te vs σ H1 Q :=
  l_list ys enc (fun y => if P y = true then some (enc y) else none) hx hn (fun y hy H' s N k => turn y hy H' s N (fun H3 s3 e => by have := k H3 s3; rw [if_pos e] at this; exact this) fun H3 s3 e => by have := k H3 s3; rw [if_neg (by rw [e]; exact Bool.false_ne_true)] at this; exact this)
    fun d H' nd s e => fin d H' nd s (by rw [e, filterMap_if])
theorem st_came_from (a0 a1 : V) : L2.start n_came_from [a0, a1] = [some a0, some a1, none, none, none, none, none, none] := rfl
theorem pure_came_from {w : World} {K : PySem.W.Frag} {mg : Str → Option Value} (T : Tx w K mg) (vs : List V) (H : Hp) (Q : VK) (E : XK) (h : sp_came_from K vs H Q E) : t_came_from K { nx := fun _ H' => Q .non H', rt := Q } (start n_came_from vs) H := by
  show t_came_from K (D0 Q) (start n_came_from vs) H
  unfold t_came_from
  obtain ⟨dB, B, s, names, rfl, hB, W, hs, q⟩ := h
  rw [st_came_from]
  walk_at "w"
  refine v_disp fun d H1 nd s1 ed => ?_
  refine v_pc ?_
  walk_at "w"
  refine new_l (by simp) fun t H2 nt s2 et => ?_
  refine v_pn ?_
  refine disp_r [(.inr s, .ref t)] rfl (s2 _ _ ed) (by simp) fun H3 o3 e3 => ?_
  have ntd : t ≠ d := (ne_of_none ed nt).symm
  have sm3 : Same H H3 := o3.same (s1.trans s2) nd
  have hc3 : CameAt H3 d [(s, none)] := ⟨[(t, s, none)], rfl, e3, fun z hz => by rw [List.mem_singleton.mp hz, o3 _ ntd]; exact et⟩
  walk_at "w"
  refine new_l (by simp) fun wl H4 nw s4 ew => ?_
  have sm4 := sm3.trans s4
  have nwd : wl ≠ d := (ne_of_none e3 nw).symm
  have nw0 : H wl = none := sm3.free nw
  walk_at "w"
  let st : Int → Option V → Option V → Option V → L2.St := fun i o5 o6 o7 => [some (.ref dB), some (.str s), some (.ref d), some (.ref wl), some (.int i), o5, o6, o7]
  let Wh : Nat → L2.St → Hp → Prop := fun m σ H' => ∃ (i : Nat) (F : Came Str), (∃ o5 o6 o7, σ = st i o5 o6 o7) ∧ Same H H' ∧ CameAt H' d F ∧ H' wl = some (.lst ((ckeys F).map V.str)) ∧ CInv B s F ∧ i ≤ F.length ∧ m = 20 - i ∧ bfs B (20 - i) i F = cameF B s
  refine v_while Wh 20 ⟨0, [(s, none)], ⟨none, none, none, rfl⟩, sm4, hc3.up s4, ew, cinv_start B s, Nat.zero_le _, rfl, rfl⟩ fun m σ H5 ⟨i, F, ⟨o5, o6, o7, eσ⟩, sm5, hc5, ew5, I, hi, em, eb⟩ => ?_
  subst eσ
  have Fl := cinv_len W hs I
  walk_at "w"
  refine if_d (fun c => ?_) (fun c => ?_)
  · have hi' : i < F.length := by
      simp only [List.length_map] at c
      omega
    obtain ⟨⟨k, o⟩, ek⟩ : ∃ e, F[i]? = some e := ⟨_, List.getElem?_eq_getElem hi'⟩
    refine wh_n ?_
    walk_at "w"
    refine ix_l (n := i) ew5 (v := .str k) (by rw [List.getElem?_map, List.getElem?_map, ek]; rfl) ?_
    walk_at "w"
    refine v_aug rfl ?_
    walk_at "w"
    refine aug_i ?_
    walk_at "w"
    refine v_get2 ?_
    walk_at "w"
    obtain ⟨bs, b1, _⟩ := id hB
    refine isd_k (sm5 _ _ b1) ?_
    walk_at "w"
    refine new_l (by simp) fun z H6 nz s6 ez => ?_
    have sm6 := sm5.trans s6
    refine hB.get2 sm6 ez fun b ⟨zs, z1, z2, z3⟩ hb0 => ?_
    have bw : b ≠ wl := by
      rintro rfl
      rcases hb0 with e | e
      · exact ne_of_none ew5 nz e
      · exact e nw0
    have hc6 := hc5.up s6
    have ew6 := s6 _ _ ew5
    have kin : ∀ e ∈ B k, e ∈ B k := fun _ h => h
    let P : List (Addr × Int × Str) → L2.St → Hp → Prop := fun done σ H' => (∃ o6 o7, σ = st (i + 1) (some (.str k)) o6 o7) ∧ Same H H' ∧ H' b = some (.lst (zs.map fun z => V.ref z.1)) ∧ (∀ z ∈ zs, H' z.1 = some (.tup [.int z.2.1, .str z.2.2])) ∧
      CameAt H' d ((done.map (·.2)).foldl (insC k) F) ∧ H' wl = some (.lst ((ckeys ((done.map (·.2)).foldl (insC k) F)).map V.str))
    have zin : ∀ z ∈ zs, z.2 ∈ B k := fun z hz => by rw [← z1]; exact List.mem_map_of_mem hz
    refine f_list zs (fun z => V.ref z.1) P (.inl (.inl z2)) ⟨⟨_, _, rfl⟩, sm6, z2, z3, hc6, ew6⟩ (fun _ _ _ H' _ h => .inl (.inl h.2.2.1)) (fun done z rest σ H7 ey h => ?_) (fun σ H7 h => ?_)
    · obtain ⟨⟨o6, o7, rfl⟩, sm7, eb7, et7, hc7, ew7⟩ := h
      have hz : z ∈ zs := by rw [ey]; simp
      have ID := cinv_fold (done.map (·.2)) I ek fun e he => by
        obtain ⟨u, hu, rfl⟩ := List.mem_map.mp he
        exact zin u (by rw [ey]; exact List.mem_append_left _ hu)
      have FDl := cinv_len W hs ID
      have ez7 := et7 z hz
      have fin : ((done ++ [z]).map (·.2)).foldl (insC k) F = insC k ((done.map (·.2)).foldl (insC k) F) z.2 := by rw [List.map_append, List.foldl_append]; rfl
      generalize hG : (done.map (·.2)).foldl (insC k) F = G at hc7 ew7 ID FDl fin
      walk_at "w"
      refine hc7.in_s ?_
      walk_at "w"
      refine if_n (fun c1 => ?_) (fun c1 => ?_)
      · walk_at "w"
        refine new_l (by simp) fun t8 H8 nt8 s8 et8 => ?_
        have hc8 := hc7.up s8
        have ew8 := s8 _ _ ew7
        walk_at "w"
        refine hc8.put (by omega) c1 et8 fun H9 o9 hc9 => ?_
        obtain ⟨kvs, ek8, _⟩ := hc8.dk
        have ew9 : H9 wl = _ := (o9 _ nwd).trans ew8
        walk_at "w"
        refine app_l ew9 (by unfold ckeys; rw [List.length_map, List.length_map]; omega) ?_
        have o10 : Only wl H9 (upd H9 wl (.lst ((ckeys G).map V.str ++ [V.str z.2.2]))) := Only.upd
        have e10 : (upd H9 wl (.lst ((ckeys G).map V.str ++ [V.str z.2.2]))) wl = some (.lst ((ckeys G).map V.str ++ [V.str z.2.2])) := upd_same
        generalize (upd H9 wl (.lst ((ckeys G).map V.str ++ [V.str z.2.2]))) = H10 at o10 e10
        walk_at "w"
        have sm10 : Same H H10 := o10.same (o9.same (sm7.trans s8) nd) nw0
        have insE : insC k G z.2 = G ++ [(z.2.2, some (z.2.1, k))] := if_neg c1
        have bd : b ≠ d := ne_obj (s8 _ _ eb7) ek8 (by intro e; cases e)
        refine ⟨⟨_, _, rfl⟩, sm10, ?_, fun u hu => ?_, ?_, ?_⟩
        · rw [o10 _ bw, o9 _ bd]
          exact s8 _ _ eb7
        · rw [o10 _ (ne_obj (s8 _ _ (et7 u hu)) ew8 (by intro e; cases e)), o9 _ (ne_obj (s8 _ _ (et7 u hu)) ek8 (by intro e; cases e))]
          exact s8 _ _ (et7 u hu)
        · rw [fin, insE]
          exact hc9.only nwd.symm ew9 (by intro xs e; cases e) o10
        · rw [fin, insE, e10]
          unfold ckeys
          rw [List.map_append, List.map_append]
          rfl
      · walk_at "w"
        have insE : insC k G z.2 = G := if_pos c1
        refine ⟨⟨_, _, rfl⟩, sm7, eb7, et7, ?_, ?_⟩
        · rw [fin, insE]; exact hc7
        · rw [fin, insE]; exact ew7
    · obtain ⟨⟨o6, o7, rfl⟩, sm7, eb7, et7, hc7, ew7⟩ := h
      walk_at "w"
      rw [z1] at hc7 ew7
      have I7 := cinv_fold (B k) I ek kin
      refine ⟨20 - (i + 1), by omega, i + 1, _, ⟨_, _, _, rfl⟩, sm7, hc7, ew7, I7, ?_, rfl, ?_⟩
      · obtain ⟨G, hG⟩ := foldC_pre k (B k) F
        rw [hG, List.length_append]
        omega
      · rw [← eb, show 20 - i = (20 - (i + 1)) + 1 by omega, bfs_turn ek]
  · have hi' : F.length ≤ i := by
      simp only [List.length_map] at c
      omega
    rw [show 20 - i = (19 - i) + 1 by omega, bfs_end hi'] at eb
    walk_at "w"
    rw [eb] at hc5
    exact q d H5 nd sm5 hc5
theorem st_way_back (a0 a1 : V) : L2.start n_way_back [a0, a1] = [some a0, some a1, none, none] := rfl
theorem pure_way_back {w : World} {K : PySem.W.Frag} {mg : Str → Option Value} (T : Tx w K mg) (vs : List V) (H : Hp) (Q : VK) (E : XK) (h : sp_way_back K vs H Q E) : t_way_back K { nx := fun _ H' => Q .non H', rt := Q } (start n_way_back vs) H := by
  show t_way_back K (D0 Q) (start n_way_back vs) H
  unfold t_way_back
  obtain ⟨d, F, B, s, g, rfl, hc, I, Fl, hg, q⟩ := h
  rw [st_way_back]
  walk_at "w"
  refine new_l (by simp) fun a H1 na s1 ea => ?_
  walk_at "w"
  let st : Option V → L2.St := fun o => [some (.ref d), some (.str g), some (.ref a), o]
  let Wh : Nat → L2.St → Hp → Prop := fun m σ H' => ∃ (i : Nat) (k : Str) (o : Option (Int × Str)) (acc : List Int), σ = st (some (.str k)) ∧ Same H H' ∧ H' a = some (.lst (acc.map V.int)) ∧ F[i]? = some (k, o) ∧ i < m ∧ acc.length + m ≤ 20 ∧ acc ++ backF F m k = backF F 20 g
  obtain ⟨e0, he0, eg⟩ := List.mem_map.mp hg
  obtain ⟨i0, hi0⟩ := List.mem_iff_getElem?.mp he0
  have il := (List.getElem?_eq_some_iff.mp hi0).1
  refine v_while Wh 20 ⟨i0, g, e0.2, [], rfl, s1, ea, by rw [hi0, ← eg], by omega, by simp, rfl⟩ fun m σ H2 ⟨i, k, o, acc, eσ, s2, ea2, hi, hm, ha, hb⟩ => ?_
  subst eσ
  have hc2 := hc.up s2
  obtain ⟨m, rfl⟩ : ∃ n, m = n + 1 := ⟨m - 1, by omega⟩
  have hbk : ∀ o, lookC F k = some o → backF F (m + 1) k = match o with
    | some (m', h) => m' :: backF F m h
    | none => [] := by
    intro o e
    simp only [backF, e]
    cases o <;> rfl
  rw [hbk o (lookC_at I.nd hi)] at hb
  walk_at "w"
  refine hc2.get I.nd hi fun t et => ?_
  walk_at "w"
  refine ix_t (n := 1) et rfl ?_
  walk_at "w"
  rcases I.par i k o hi with ⟨_, rfl, rfl⟩ | ⟨n, h, j, o', rfl, hj, hq, hB⟩
  · refine if_nF rfl ?_
    walk_at "w"
    refine ⟨a, _, rfl, rfl, ea2, ?_⟩
    have o3 : Only a H2 (upd H2 a (.lst (acc.map V.int).reverse)) := Only.upd
    have e3 : (upd H2 a (.lst (acc.map V.int).reverse)) a = some (.lst (acc.map V.int).reverse) := upd_same
    generalize upd H2 a (.lst (acc.map V.int).reverse) = H3 at o3 e3
    walk_at "w"
    have hb' : acc = backF F 20 g := by rw [← hb]; simp
    refine q a H3 na (o3.same s2 na) ?_
    rw [e3, ← List.map_reverse, hb']
    rfl
  · refine if_nT (by intro e; cases e) ?_
    refine wh_n ?_
    walk_at "w"
    refine hc2.get I.nd hi fun t et => ?_
    walk_at "w"
    refine ix_t (n := 0) et rfl ?_
    walk_at "w"
    refine app_l ea2 (by rw [List.length_map]; omega) ?_
    have o3 : Only a H2 (upd H2 a (.lst (acc.map V.int ++ [.int n]))) := Only.upd
    have e3 : (upd H2 a (.lst (acc.map V.int ++ [.int n]))) a = some (.lst (acc.map V.int ++ [.int n])) := upd_same
    have s3 : Same H (upd H2 a (.lst (acc.map V.int ++ [.int n]))) := o3.same s2 na
    show (dSeq _ _).nx _ (upd H2 a (.lst (acc.map V.int ++ [.int n])))
    generalize upd H2 a (.lst (acc.map V.int ++ [.int n])) = H3 at o3 e3 s3
    have hc3 := hc.up s3
    walk_at "w"
    refine hc3.get I.nd hi fun t et => ?_
    walk_at "w"
    refine ix_t (n := 1) et rfl ?_
    walk_at "w"
    refine ⟨m, Nat.lt_succ_self m, j, h, o', acc ++ [n], rfl, s3, by rw [e3, List.map_append]; rfl, hq, by omega, by simp; omega, ?_⟩
    rw [List.append_assoc]
    exact hb
theorem st_in_order (a0 a1 : V) : L2.start n_in_order [a0, a1] = [some a0, some a1, none] := rfl
theorem pure_in_order {w : World} {K : PySem.W.Frag} {mg : Str → Option Value} (T : Tx w K mg) (vs : List V) (H : Hp) (Q : VK) (E : XK) (h : sp_in_order K vs H Q E) : t_in_order K { nx := fun _ H' => Q .non H', rt := Q } (start n_in_order vs) H := by
  show t_in_order K (D0 Q) (start n_in_order vs) H
  unfold t_in_order
  obtain ⟨p, lc, ld, d, w, F, rfl, hw, hl, hc, q⟩ := h
  walk_at "w"
  refine ⟨p, lc, ld, w, rfl, hw, fun a H1 na s1 ea => ?_⟩
  refine l_filter w.names V.str (fun x => decide (x ∈ ckeys F)) (.inl (.inl ea)) (by omega) (fun x hx H2 s2 N k1 k0 => ?_) (fun b H2 nb s2 eb => ?_)
  · have hc2 := hc.up (s1.trans s2)
    walk_at "w"
    refine hc2.in_s ?_
    walk_at "w"
    refine if_d (fun c => ?_) (fun c => ?_)
    · walk_at "w"
      exact k1 H2 (Same.refl _) (decide_eq_true c)
    · exact k0 H2 (Same.refl _) (decide_eq_false c)
  · walk_at "w"
    exact q b H2 (s1.free nb) (s1.trans s2) eb
section
variable {K : PySem.W.Frag} {H H' H0 : Hp} {d : Addr} {B : Adj Str} {F : Came Str} {Q : VK} {σ : L2.St} {v x y z : V}
theorem merge_is : ∀ (kb ka : List (Key × V)) (n : Key), (valV (mergeK ka kb) n).isSome = ((valV ka n).isSome || (valV kb n).isSome)
  | [], ka, n => by simp [mergeK, valV]
  | e :: kb, ka, n => by
    show (valV (mergeK (putK ka e.1 e.2) kb) n).isSome = _
    rw [merge_is kb, L2.valV_put]
    by_cases c : n = e.1
    · rw [if_pos c, valV_pos c.symm]
      simp
    · rw [if_neg c, valV_neg fun h => c h.symm]
theorem CameAt.kvs (h : CameAt H d F) : ∃ kvs : List (Key × V), H d = some (.dK kvs) ∧ kvs.length = F.length ∧ ∀ n : Str, (valV kvs (.inr n)).isSome = decide (n ∈ ckeys F) := by
  obtain ⟨zs, h1, h2, _⟩ := h
  refine ⟨_, h2, by rw [List.length_map, ← h1, List.length_map], fun n => ?_⟩
  have e : zs.map (fun y => y.2.1) = ckeys F := by rw [← h1]; unfold ckeys; rw [List.map_map]; rfl
  rw [valV_isS (f := fun y : Addr × Str × Option (Int × Str) => y.2.1), e]
/-- a list of lists, its lists one's own -/
structure LLS (H0 H : Hp) (a : Addr) (xss : List (List Str)) (ys : List (Addr × List Str)) : Prop where
  eq : ys.map (·.2) = xss
  ls : H a = some (.lst (ys.map fun y => V.ref y.1))
  own : ∀ y ∈ ys, H0 y.1 = none
  it : ∀ y ∈ ys, H y.1 = some (.lst (y.2.map V.str))
theorem LLS.up {a : Addr} {xss : List (List Str)} {ys : List (Addr × List Str)} (h : LLS H0 H a xss ys) (s : Same H H') : LLS H0 H' a xss ys := ⟨h.eq, s _ _ h.ls, h.own, fun y hy => s _ _ (h.it y hy)⟩
/-- a thing of class C made of a list -/
theorem mk_L {C f : Str} {l : Addr} {xs : List V} (hl : H l = some (.lst xs)) (h : ∀ p q dx H', H p = none → H q = none → Same H H' → H' p = some (.ins (He.ga K C) dx [(f, .ref q)]) → H' q = some (.lst xs) → Q (.ref p) H') : MkR (He.ga K C) (spInitL K C f) [.ref l] E0 H Q := by
  intro p dx n1 n2 n3
  have s1 : Same H (upd (upd H dx (.own p)) p (.ins (He.ga K C) dx [])) := same_own (same_new n2) n1
  refine ⟨p, dx, l, xs, rfl, upd_same, s1 _ _ hl, fun q H1 nq k1 e1 e2 => ⟨rfl, h p q dx H1 n1 (s1.free nq) (fun c o hc => ?_) e1 e2⟩⟩
  exact k1 c o (by rw [List.mem_singleton]; exact ne_of_none hc n1) (s1 _ _ hc)
end
theorem st_pieces (a0 : V) : L2.start n_pieces [a0] = [some a0, none, none, none, none, none] := rfl
theorem pure_pieces {w : World} {K : PySem.W.Frag} {mg : Str → Option Value} (T : Tx w K mg) (vs : List V) (H : Hp) (Q : VK) (E : XK) (h : sp_pieces K vs H Q E) : t_pieces K { nx := fun _ H' => Q .non H', rt := Q } (start n_pieces vs) H := by
  show t_pieces K (D0 Q) (start n_pieces vs) H
  unfold t_pieces
  obtain ⟨p, lc, ld, w, rfl, hw, ok, q⟩ := h
  rw [st_pieces]
  walk_at "w"
  refine ⟨p, lc, ld, w, rfl, hw, ok.tlen, ok.srt, fun l1 H1 n1 s1 hl1 => ?_⟩
  walk_at "w"
  refine ⟨l1, w.ties, rfl, hl1, ok.tlen, fun t ht => (ok.tie t ht).ne, fun be H2 n2 s2 hbe => ?_⟩
  walk_at "w"
  refine new_l (by simp) fun fl H3 n3 s3 ef => ?_
  walk_at "w"
  refine v_dnew fun md H4 n4 s4 em => ?_
  have s34 := s3.trans s4
  have sm2 := s1.trans s2
  have sm4 := sm2.trans s34
  have hbe4 := hbe.up s34
  have hw4 := hw.up sm4
  have ef4 := s4 _ _ ef
  have n3' : H fl = none := sm2.free n3
  have n4' : H md = none := (sm2.trans s3).free n4
  have nfm : fl ≠ md := ne_of_none ef n4
  walk_at "w"
  refine ⟨p, lc, ld, w, rfl, hw4, fun a5 H5 n5 s5 ea5 => ?_⟩
  have sm5 := sm4.trans s5
  let st : Option V → Option V → L2.St := fun o o' => [some (.ref p), some (.ref be), some (.ref fl), some (.ref md), o, o']
  let P : List Str → L2.St → Hp → Prop := fun done σ H' => (∃ o o', σ = st o o') ∧ Keep [fl, md] H5 H' ∧ Same H H' ∧ (∃ ys, LLS H H' fl (done.foldl (pcsStep w.ties w.names) []) ys) ∧
    ∃ kvs, H' md = some (.dK kvs) ∧ kvs.length ≤ 16 * done.length ∧ ∀ n : Str, (valV kvs (.inr n)).isSome = true ↔ ∃ y ∈ done, Conn w.ties y n
  have a5f : a5 ∉ [fl, md] := by
    have h1 : a5 ≠ fl := (ne_of_none ef4 n5).symm
    have h2 : a5 ≠ md := (ne_of_none em n5).symm
    simp [h1, h2]
  have be4 : be ∉ [fl, md] := by
    obtain ⟨bs, b1, _⟩ := hbe
    have h1 : be ≠ fl := ne_of_none b1 n3
    have h2 : be ≠ md := ne_of_none (s3 _ _ b1) n4
    simp [h1, h2]
  have Ww := ok.within
  have wl := ok.len
  refine f_list w.names V.str P (.inl (.inl ea5)) ⟨⟨none, none, rfl⟩, Keep.refl _ _, sm5, ⟨[], rfl, s5 _ _ ef4, fun y hy => (nomatch hy), fun y hy => (nomatch hy)⟩, [], s5 _ _ em, Nat.le_refl _, fun n => ⟨fun h => (nomatch h), fun ⟨y, hy, _⟩ => (nomatch hy)⟩⟩
    (fun _ _ _ H' _ h => .inl (.inl (h.2.1 _ _ a5f ea5))) (fun done n rest σ H' ey h => ?_) (fun σ H' h => ?_)
  · obtain ⟨⟨o, o', rfl⟩, k6, s6, ⟨ys, hys⟩, kvs, ek, kl, kin⟩ := h
    have hn : n ∈ w.names := by rw [ey]; simp
    have dl : done.length ≤ 16 := by
      have := congrArg List.length ey
      rw [List.length_append] at this
      omega
    have dsub : ∀ y ∈ done, y ∈ w.names := fun y hy => by rw [ey]; exact List.mem_append_left _ hy
    have told := told_iff (ts := w.ties) (names := w.names) (done := done) (n := n) dsub
    have fold1 : (done ++ [n]).foldl (pcsStep w.ties w.names) [] = pcsStep w.ties w.names (done.foldl (pcsStep w.ties w.names) []) n := by rw [List.foldl_append]; rfl
    walk_at "w"
    refine in_s ek ?_
    walk_at "w"
    cases c : (valV kvs (.inr n)).isSome with
    | true =>
      walk_at "w"
      have c' := (kin n).mp c
      refine ⟨⟨_, _, rfl⟩, k6, s6, ⟨ys, ?_⟩, kvs, ek, by rw [List.length_append]; omega, fun m => (kin m).trans ⟨fun ⟨y, hy, h⟩ => ⟨y, List.mem_append_left _ hy, h⟩, fun ⟨y, hy, h⟩ => ?_⟩⟩
      · rw [fold1]
        rw [show pcsStep w.ties w.names (done.foldl (pcsStep w.ties w.names) []) n = done.foldl (pcsStep w.ties w.names) [] from if_pos (told.mpr c')]
        exact hys
      · rcases List.mem_append.mp hy with hy | hy
        · exact ⟨y, hy, h⟩
        · rw [List.mem_singleton.mp hy] at h
          obtain ⟨z, hz, hc⟩ := c'
          exact ⟨z, hz, hc.trans h⟩
    | false =>
      walk_at "w"
      have c' : ¬ ∃ y ∈ done, Conn w.ties y n := fun h => by have := (kin n).mpr h; rw [c] at this; exact nomatch this
      have hbe6 : Bes H' be (adjF w.ties) := by
        obtain ⟨bs, b1, b2, b3, b4⟩ := hbe
        have fr : ∀ c o, H2 c = some o → H' c = some o := fun c o h => k6 c o (by
          have h1 : c ≠ fl := ne_of_none h n3
          have h2 : c ≠ md := ne_of_none (s3 _ _ h) n4
          simp [h1, h2]) (s5 _ _ (s4 _ _ (s3 _ _ h)))
        exact ⟨bs, fr _ _ b1, b2, fun y hy => let ⟨zs, z1, z2, z3⟩ := b3 y hy; ⟨zs, z1, fr _ _ z2, fun z hz => fr _ _ (z3 z hz)⟩, b4⟩
      refine ⟨be, _, n, w.names, rfl, hbe6, Ww, hn, fun cd H7 n7 s7 hc7 => ?_⟩
      walk_at "w"
      refine v_dupd ?_
      walk_at "w"
      refine isd_k (s7 _ _ ek) ?_
      walk_at "w"
      obtain ⟨kc, ec, lc', kcin⟩ := hc7.kvs
      have Fl := cinv_len Ww hn (came_inv Ww hn).1
      refine ⟨cd, kvs, kc, rfl, ne_of_none ek n7, s7 _ _ ek, ec, sz (by omega), ?_⟩
      have o8 : Only md H7 (upd H7 md (.dK (mergeK kvs kc))) := Only.upd
      have e8 : (upd H7 md (.dK (mergeK kvs kc))) md = some (.dK (mergeK kvs kc)) := upd_same
      generalize upd H7 md (.dK (mergeK kvs kc)) = H8 at o8 e8
      have s8 : Same H H8 := o8.same (s6.trans s7) n4'
      have hc8 : CameAt H8 cd (cameF (adjF w.ties) n) := hc7.only (ne_of_none ek n7).symm (s7 _ _ ek) (by intro xs e; cases e) o8
      have ef8 : H8 fl = some (.lst (ys.map fun y => V.ref y.1)) := by rw [o8 _ nfm]; exact s7 _ _ hys.ls
      have hw8 := hw.up s8
      walk_at "w"
      refine ⟨p, lc, ld, cd, w, _, rfl, hw8, wl, hc8, fun io H9 n9 s9 e9 => ?_⟩
      have ef9 := s9 _ _ ef8
      walk_at "w"
      have yl : ys.length ≤ 16 := by
        have := pcs_len w.ties w.names done []
        rw [← hys.eq, List.length_map] at this
        simp at this
        omega
      refine app_l ef9 (by rw [List.length_map]; omega) ?_
      have el : ys.map (fun y => V.ref y.1) ++ [V.ref io] = (ys ++ [(io, clsF w.ties w.names n)]).map fun y => V.ref y.1 := by rw [List.map_append]; rfl
      rw [el]
      have o10 : Only fl H9 (upd H9 fl (.lst ((ys ++ [(io, clsF w.ties w.names n)]).map fun y => V.ref y.1))) := Only.upd
      have e10 : (upd H9 fl (.lst ((ys ++ [(io, clsF w.ties w.names n)]).map fun y => V.ref y.1))) fl = some (.lst ((ys ++ [(io, clsF w.ties w.names n)]).map fun y => V.ref y.1)) := upd_same
      generalize upd H9 fl (.lst ((ys ++ [(io, clsF w.ties w.names n)]).map fun y => V.ref y.1)) = H10 at o10 e10
      have s10 : Same H H10 := o10.same (s8.trans s9) n3'
      walk_at "w"
      rw [cls_came Ww hn fun _ _ => Iff.rfl] at e9
      refine ⟨⟨_, _, rfl⟩, ?_, s10, ⟨ys ++ [(io, clsF w.ties w.names n)], ?_, e10, ?_, ?_⟩, mergeK kvs kc, ?_, ?_, ?_⟩
      · intro c o hc ho
        have h1 : c ≠ fl := fun e => hc (by rw [e]; simp)
        have h2 : c ≠ md := fun e => hc (by rw [e]; simp)
        rw [o10 _ h1]
        refine s9 _ _ ?_
        rw [o8 _ h2]
        exact s7 _ _ (k6 _ _ hc ho)
      · rw [fold1]
        rw [show pcsStep w.ties w.names (done.foldl (pcsStep w.ties w.names) []) n = done.foldl (pcsStep w.ties w.names) [] ++ [clsF w.ties w.names n] from if_neg (fun h => c' (told.mp h)), List.map_append, hys.eq]
        rfl
      · intro y hy
        rcases List.mem_append.mp hy with hy | hy
        · exact hys.own y hy
        · rw [List.mem_singleton.mp hy]; exact s8.free n9
      · intro y hy
        rcases List.mem_append.mp hy with hy | hy
        · have ne1 : y.1 ≠ md := ne_obj (hys.it y hy) ek (by intro e; cases e)
          have h8 : H8 y.1 = some (.lst (y.2.map V.str)) := by rw [o8 _ ne1]; exact s7 _ _ (hys.it y hy)
          have h9 := s9 _ _ h8
          by_cases c2 : y.1 = fl
          · exfalso
            have := hys.it y hy
            rw [c2, hys.ls] at this
            have h3 := congrArg (fun o : Option HO => match o with | some (.lst xs) => xs | _ => []) this
            have hm : V.ref y.1 ∈ ys.map (fun y => V.ref y.1) := List.mem_map_of_mem (f := fun y : Addr × List Str => V.ref y.1) hy
            rw [show ys.map (fun y => V.ref y.1) = y.2.map V.str from h3] at hm
            obtain ⟨_, _, e⟩ := List.mem_map.mp hm
            exact nomatch e
          · rw [o10 _ c2]; exact h9
        · rw [List.mem_singleton.mp hy]
          rw [o10 _ (ne_of_none ef8 n9).symm]
          exact e9
      · rw [o10 _ nfm.symm]
        exact s9 _ _ e8
      · have := length_mergeK kc kvs
        rw [List.length_append, List.length_singleton]
        omega
      · intro m
        rw [merge_is, Bool.or_eq_true, kin m, kcin m, decide_eq_true_iff, came_keys Ww hn]
        constructor
        · rintro (⟨y, hy, h⟩ | h)
          · exact ⟨y, List.mem_append_left _ hy, h⟩
          · exact ⟨n, by simp, h⟩
        · rintro ⟨y, hy, h⟩
          rcases List.mem_append.mp hy with hy | hy
          · exact .inl ⟨y, hy, h⟩
          · rw [List.mem_singleton.mp hy] at h
            exact .inr h
  · obtain ⟨⟨o, o', rfl⟩, k6, s6, ⟨ys, hys⟩, _⟩ := h
    walk_at "w"
    refine q fl H' n3' s6 ⟨ys, hys.eq, hys.ls, hys.it⟩ fun zs hz z hm => ?_
    rw [hys.ls] at hz
    have h3 : ys.map (fun y => V.ref y.1) = zs.map fun y => V.ref y.1 := congrArg (fun o : Option HO => match o with | some (.lst xs) => xs | _ => []) hz
    have hm' : V.ref z.1 ∈ ys.map fun y => V.ref y.1 := by rw [h3]; exact List.mem_map_of_mem (f := fun y : Addr × List Str => V.ref y.1) hm
    obtain ⟨y, hy, e⟩ := List.mem_map.mp hm'
    injection e with e
    rw [← e]
    exact hys.own y hy
theorem st_together (a0 a1 a2 : V) : L2.start n_together [a0, a1, a2] = [some a0, some a1, some a2, none] := rfl
theorem pure_together {w : World} {K : PySem.W.Frag} {mg : Str → Option Value} (T : Tx w K mg) (vs : List V) (H : Hp) (Q : VK) (E : XK) (h : sp_together K vs H Q E) : t_together K { nx := fun _ H' => Q .non H', rt := Q } (start n_together vs) H := by
  show t_together K (D0 Q) (start n_together vs) H
  unfold t_together
  obtain ⟨p, lc, ld, w, a, b, rfl, hw, ok, ha, hb, q⟩ := h
  have Ww := ok.within
  walk_at "w"
  refine ⟨p, lc, ld, w, a, rfl, hw, ha, ?_⟩
  walk_at "w"
  refine ⟨p, lc, ld, w, b, rfl, hw, hb, ?_⟩
  walk_at "w"
  refine ⟨p, lc, ld, w, rfl, hw, ok.tlen, ok.srt, fun l1 H1 n1 s1 hl1 => ?_⟩
  walk_at "w"
  refine ⟨l1, w.ties, rfl, hl1, ok.tlen, fun t ht => (ok.tie t ht).ne, fun be H2 n2 s2 hbe => ?_⟩
  walk_at "w"
  refine ⟨be, _, a, w.names, rfl, hbe, Ww, ha, fun cd H3 n3 s3 hc => ?_⟩
  have s13 := (s1.trans s2).trans s3
  have hI := (came_inv Ww ha).1
  have hw3 := hw.up s13
  walk_at "w"
  refine hc.in_s ?_
  walk_at "w"
  refine if_d (fun c => ?_) (fun c => ?_)
  · walk_at "w"
    refine ⟨cd, _, adjF w.ties, a, b, rfl, hc, hI, cinv_len Ww ha hI, c, fun l H4 n4 s4 e4 => ?_⟩
    walk_at "w"
    refine mk_L e4 fun r x dx H5 n5 _ s5 e5 e6 => ?_
    walk_at "w"
    exact q r H5 ((s13.trans s4).trans s5) ⟨x, by rw [if_pos c]; exact ⟨dx, e5, e6⟩⟩
  · walk_at "w"
    refine ⟨p, lc, ld, cd, w, _, rfl, hw3, ok.len, hc, fun l H4 n4 s4 e4 => ?_⟩
    walk_at "w"
    refine mk_L e4 fun r x dx H5 n5 _ s5 e5 e6 => ?_
    walk_at "w"
    exact q r H5 ((s13.trans s4).trans s5) ⟨x, by rw [if_neg c]; exact ⟨dx, e5, e6⟩⟩
section
variable {K : PySem.W.Frag} {H H' H0 : Hp} {d : Addr} {names : List Str} {r r' : Str → Str} {Q : VK} {σ : L2.St} {v x y z : V} {g : TG} {t : TT} {te : TE} {D : Ends} {s1 : TS}
theorem DSS.get {n : Str} (h : DSS H d names r) (nd : names.Nodup) (hn : n ∈ names) (q : Q (.str (r n)) H) : GetR (.ref d) (.str n) H Q := by
  have e := valV_at (k := fun x : Str => (Sum.inr x : Key)) (v := fun x => V.str (r x)) (by
    rw [List.nodup_iff_pairwise_ne] at nd ⊢
    rw [List.pairwise_map]
    exact nd.imp fun h e => h (Sum.inr.inj e)) hn
  exact get_s h e q
theorem DSS.put {n u : Str} (h : DSS H d names r) (hl : names.length ≤ 1000) (hn : n ∈ names) {q : Hp → Prop} (k : ∀ H', Only d H H' → DSS H' d names (fun x => if x = n then u else r x) → q H') : PutR (.str u) (.ref d) (.str n) H q := by
  refine put_s h (by rw [List.length_map]; omega) ?_
  rw [putK_old (k := fun x : Str => (Sum.inr x : Key)) (v := fun x => V.str (r x)) (List.mem_map_of_mem (f := fun x : Str => (Sum.inr x : Key)) hn)]
  refine k _ Only.upd ?_
  unfold DSS
  rw [upd_same]
  congr 2
  refine List.map_congr_left fun x _ => ?_
  show _ = (Sum.inr x, V.str (if x = n then u else r x))
  by_cases c : x = n
  · rw [if_pos (by rw [c]), if_pos c]
  · rw [if_neg fun e => c (Sum.inr.inj e), if_neg c]
theorem DSS.put_new {n u : Str} (h : DSS H d names r) (hl : names.length ≤ 1000) (hn : n ∉ names) (e : u = r n) {q : Hp → Prop} (k : ∀ H', Only d H H' → DSS H' d (names ++ [n]) r → q H') : PutR (.str u) (.ref d) (.str n) H q := by
  refine put_s h (by rw [List.length_map]; omega) ?_
  rw [putK_new (k := fun x : Str => (Sum.inr x : Key)) (v := fun x => V.str (r x)) fun y hy e => hn (by rw [← Sum.inr.inj e]; exact hy)]
  refine k _ Only.upd ?_
  unfold DSS
  rw [upd_same, List.map_append, e]
  rfl
theorem DSS.congr (h : DSS H d names r) (e : ∀ x ∈ names, r x = r' x) : DSS H d names r' := by
  unfold DSS at *
  rw [h]
  congr 2
  exact List.map_congr_left fun x hx => by rw [e x hx]
theorem DSS.only {a : Addr} (h : DSS H d names r) (ne : d ≠ a) (o : Only a H H') : DSS H' d names r := by
  unfold DSS at *
  rw [o _ ne]; exact h
def LockR (te : TE) (σ : L2.St) (H : Hp) (Q : VK) : Prop := ∃ d u, H d = some u ∧ Mut (some u) ∧ ∀ od, te σ (upd H d (.frz od u)) fun v H' => H' d = some (.frz od u) ∧ Q v (upd H' d u)
theorem v_lockE (h : LockR te σ H Q) : tLockE te σ H Q := h
def ItK (x : V) (H : Hp) (R : It → Hp → Prop) : Prop := ∃ d o, x = .ref d ∧ ((∃ kvs, H d = some (.frz o (.dK kvs)) ∧ R (Itk d o kvs) H) ∨ ∃ kvs, H d = some (.frz o (.dT kvs)) ∧ R (Itkt d o kvs) H)
theorem i_keys {R : It → Hp → Prop} (h : te σ H fun x H1 => ItK x H1 R) : iKeys te σ H R := h
/-- a comprehension over a locked dict's keys, some kept -/
theorem l_keys {o : Obj} {β : Type} {vs : List Nat} (ys : List β) (k : β → Key) (w : β → V) (P : β → Bool) (hx : H d = some (.frz o (.dK (ys.map fun y => (k y, w y))))) (hn : ys.length ≤ 100000)
    (turn : ∀ y ∈ ys, ∀ H', Same H H' → ∀ N : Option V → Hp → Prop, (∀ H3, Same H' H3 → P y = true → N (some (kV (k y))) H3) → (∀ H3, Same H' H3 → P y = false → N none H3) → Turn g t te vs σ (kV (k y)) H' N)
    (fin : ∀ a H', H a = none → Same H H' → H' a = some (.lst ((ys.filter P).map fun y => kV (k y))) → Q (.ref a) H') : ItK (.ref d) H fun J H1 => LcK J g t te vs σ H1 Q :=
  ⟨d, o, rfl, .inl ⟨_, hx, fun a ha => lcG ys.length hn ha (fun i acc _ => acc = ((ys.take i).filter P).map fun y => kV (k y)) rfl (fun _ _ _ _ _ h => h) (fun i H' hi s => ⟨s _ _ hx, by rw [List.length_map]; exact hi⟩) (fun H' s => ⟨s _ _ hx, by rw [List.length_map]; exact Nat.le_refl _⟩) (fun i acc H' hi s p e v H2 yl N kN => by
    obtain ⟨rfl, k', v', hk, rfl⟩ := yl
    have e1 : ys[i]? = some ys[i] := List.getElem?_eq_getElem hi
    rw [List.getElem?_map, e1] at hk
    have hk := Option.some.inj hk
    injection hk with hk1 hk2
    subst hk1
    refine turn ys[i] (List.getElem_mem hi) _ s N (fun H3 s3 c => kN _ H3 s3 ?_) fun H3 s3 c => kN _ H3 s3 ?_
    · rw [p, take_snoc e1, List.filter_append, List.map_append, List.filter_cons_of_pos c]
      rfl
    · rw [p, take_snoc e1, List.filter_append, List.map_append, List.filter_cons_of_neg (by rw [c]; exact Bool.false_ne_true)]
      rfl) fun acc H' s e p => by
    subst p
    rw [List.take_of_length_le (Nat.le_refl _)] at e
    exact fin a H' ha s e⟩⟩
theorem get_f {o : Obj} {β : Type} {ys : List β} {k : β → Key} {w : β → V} {y : β} (hx : H d = some (.frz o (.dK (ys.map fun y => (k y, w y))))) (nd : (ys.map k).Nodup) (hy : y ∈ ys) (q : Q (w y) H) : GetR (.ref d) (kV (k y)) H Q := get_k (.inr ⟨o, hx⟩) (valV_at nd hy) q
theorem strs_nd (nd : names.Nodup) : (names.map fun x => (Sum.inr x : Key)).Nodup := by
  rw [List.nodup_iff_pairwise_ne] at nd ⊢
  rw [List.pairwise_map]
  exact nd.imp fun h e => h (Sum.inr.inj e)
end
theorem st_trees_of (a0 a1 : V) : L2.start n_trees_of [a0, a1] = [some a0, some a1, none, none, none, none, none, none] := rfl
theorem pure_trees_of {w : World} {K : PySem.W.Frag} {mg : Str → Option Value} (T : Tx w K mg) (vs : List V) (H : Hp) (Q : VK) (E : XK) (h : sp_trees_of K vs H Q E) : t_trees_of K { nx := fun _ H' => Q .non H', rt := Q } (start n_trees_of vs) H := by
  show t_trees_of K (D0 Q) (start n_trees_of vs) H
  unfold t_trees_of
  obtain ⟨p, lc, ld, a, w, ts, rfl, hw, ok, ⟨ys, e1, e2, e3⟩, hl, hin, q⟩ := h
  rw [st_trees_of]
  walk_at "w"
  refine v_dnew fun rd H1 n1 s1 ed => ?_
  have hw1 := hw.up s1
  have nl := ok.len
  walk_at "w"
  refine ⟨p, lc, ld, w, rfl, hw1, fun l2 H2 n2 s2 el2 => ?_⟩
  have sm2 := s1.trans s2
  let st : Option V → L2.St := fun o => [some (.ref p), some (.ref a), some (.ref rd), o, none, none, none, none]
  let P : List Str → L2.St → Hp → Prop := fun done σ H' => (∃ o, σ = st o) ∧ Keep [rd] H2 H' ∧ Same H H' ∧ DSS H' rd done id
  have l2r : l2 ∉ [rd] := by rw [List.mem_singleton]; exact (ne_of_none ed n2).symm
  refine f_list w.names V.str P (.inl (.inl el2)) ⟨⟨none, rfl⟩, Keep.refl _ _, sm2, s2 _ _ ed⟩ (fun _ _ _ H' _ h => .inl (.inl (h.2.1 _ _ l2r el2))) (fun done n rest σ H' ey h => ?_) (fun σ H' h => ?_)
  · obtain ⟨⟨o, rfl⟩, k3, s3, hd⟩ := h
    have nn : n ∉ done := by
      have := ok.nd
      rw [ey] at this
      exact fun h => (List.nodup_append.mp this).2.2 n h n List.mem_cons_self rfl
    have dl := congrArg List.length ey
    rw [List.length_append] at dl
    walk_at "w"
    refine hd.put_new (by omega) nn rfl fun H4 o4 hd4 => ?_
    walk_at "w"
    exact ⟨⟨_, rfl⟩, fun c u hc hu => by rw [o4 _ (by simpa using hc)]; exact k3 c u hc hu, o4.same s3 n1, hd4⟩
  · obtain ⟨⟨o, rfl⟩, k3, s3, hd⟩ := h
    walk_at "w"
    refine new_l (by simp) fun fl H4 n4 s4 ef => ?_
    have n4' := s3.free n4
    have sm4 := s3.trans s4
    have hd4 : DSS H4 rd w.names id := s4 _ _ hd
    have nfr : fl ≠ rd := (ne_of_none hd n4).symm
    walk_at "w"
    let st2 : Option V → Option V → Option V → Option V → L2.St := fun o3 o5 o6 o7 => [some (.ref p), some (.ref a), some (.ref rd), o3, some (.ref fl), o5, o6, o7]
    let P2 : List AT → L2.St → Hp → Prop := fun done σ H' => (∃ o3 o5 o6 o7, σ = st2 o3 o5 o6 o7) ∧ Same H H' ∧ DSS H' rd w.names (forF (done.map (·.2))).1 ∧ H' fl = some (.lst ((forF (done.map (·.2))).2.map fun t => V.int t.num))
    refine f_list ys (fun y => V.ref y.1) P2 (.inl (.inl (sm4 _ _ e2))) ⟨⟨o, none, none, none, rfl⟩, sm4, hd4, ef⟩ (fun _ _ _ H' _ h => .inl (.inl (h.2.1 _ _ e2))) (fun done y rest σ H5 ey h => ?_) (fun σ H5 h => ?_)
    · obtain ⟨⟨o3, o5, o6, o7, rfl⟩, s5, hd5, ef5⟩ := h
      have hy : y ∈ ys := by rw [ey]; simp
      have ht := (e3 y hy).up s5
      have hyt : y.2 ∈ ts := by rw [← e1]; exact List.mem_map_of_mem hy
      obtain ⟨tin, hdin⟩ := hin _ hyt
      have hsn : forF ((done ++ [y]).map (·.2)) = forStep (forF (done.map (·.2))) y.2 := by rw [List.map_append]; exact forF_snoc _ _
      have fl2 : (forF (done.map (·.2))).2.length ≤ 48 := by
        have h1 : ∀ l : List Tr, (forF l).2.length ≤ l.length := by
          intro l
          induction l using snoc_ind with
          | h0 => exact Nat.le_refl _
          | hs l x ih =>
            rw [forF_snoc, List.length_append, List.length_singleton]
            unfold forStep
            split
            · omega
            · rw [List.length_append, List.length_singleton]; omega
        have h2 := h1 (done.map (·.2))
        have h3 := congrArg List.length ey
        have h4 := congrArg List.length e1
        rw [List.length_map] at h2 h4
        rw [List.length_append] at h3
        omega
      generalize hG : forF (done.map (·.2)) = G at hd5 ef5 hsn fl2
      obtain ⟨r, f⟩ := G
      dsimp only at hd5 ef5 fl2
      walk_at "w"
      refine hd5.get ok.nd tin ?_
      walk_at "w"
      refine hd5.get ok.nd hdin ?_
      walk_at "w"
      refine new_l (by simp) fun tp H6 n6 s6 et6 => ?_
      have hd6 : DSS H6 rd w.names r := s6 _ _ hd5
      have ef6 := s6 _ _ ef5
      have ht6 := ht.up s6
      have sm6 := s5.trans s6
      walk_at "w"
      refine if_n (fun c => ?_) (fun c => ?_)
      · have hsn' : forF ((done ++ [y]).map (·.2)) = (rootStep r y.2, f ++ [y.2]) := by rw [hsn]; exact if_neg c
        walk_at "w"
        refine app_l ef6 (by rw [List.length_map]; omega) ?_
        have ea : f.map (fun t => V.int t.num) ++ [V.int y.2.num] = (f ++ [y.2]).map fun t => V.int t.num := by rw [List.map_append]; rfl
        rw [ea]
        have o7' : Only fl H6 (upd H6 fl (.lst ((f ++ [y.2]).map fun t => V.int t.num))) := Only.upd
        have e7 : (upd H6 fl (.lst ((f ++ [y.2]).map fun t => V.int t.num))) fl = some (.lst ((f ++ [y.2]).map fun t => V.int t.num)) := upd_same
        generalize upd H6 fl (.lst ((f ++ [y.2]).map fun t => V.int t.num)) = H7 at o7' e7
        have hd7 := hd6.only nfr.symm o7'
        have sm7 := o7'.same sm6 n4'
        walk_at "w"
        refine v_lockE ⟨rd, _, hd7, trivial, fun od => ?_⟩
        have hfz : (upd H7 rd (.frz od (.dK (w.names.map fun x => (Sum.inr x, V.str (r x)))))) rd = some (.frz od (.dK (w.names.map fun x => (Sum.inr x, V.str (r x))))) := upd_same
        have of8 : Only rd H7 (upd H7 rd (.frz od (.dK (w.names.map fun x => (Sum.inr x, V.str (r x)))))) := Only.upd
        generalize (upd H7 rd (.frz od (.dK (w.names.map fun x => (Sum.inr x, V.str (r x)))))) = H8 at hfz of8
        walk_at "w"
        refine i_keys ?_
        walk_at "w"
        refine l_keys w.names (fun x => Sum.inr x) (fun x => V.str (r x)) (fun x => decide (r x = r y.2.hd)) hfz (by omega) (fun x hx H9 s9 N k1 k0 => ?_) (fun l9 H9 n9 s9 e9 => ?_)
        · walk_at "w"
          refine get_f (s9 _ _ hfz) (strs_nd ok.nd) hx ?_
          walk_at "w"
          refine if_d (fun c => ?_) (fun c => ?_)
          · walk_at "w"
            exact k1 H9 (Same.refl _) (decide_eq_true c)
          · exact k0 H9 (Same.refl _) (decide_eq_false c)
        · refine ⟨s9 _ _ hfz, ?_⟩
          have nl9 : l9 ≠ rd := by rintro rfl; rw [hfz] at n9; cases n9
          have o10 : Only rd H9 (upd H9 rd (.dK (w.names.map fun x => (Sum.inr x, V.str (r x))))) := Only.upd
          have e10 : DSS (upd H9 rd (.dK (w.names.map fun x => (Sum.inr x, V.str (r x))))) rd w.names r := upd_same
          generalize upd H9 rd (.dK (w.names.map fun x => (Sum.inr x, V.str (r x)))) = H10 at o10 e10
          have sm10 : Same H H10 := fun c u hu => by
            have cr : c ≠ rd := ne_of_none hu n1
            rw [o10 _ cr]
            refine s9 _ _ ?_
            rw [of8 _ cr]
            exact sm7 _ _ hu
          have e11 : H10 l9 = some (.lst ((w.names.filter fun x => decide (r x = r y.2.hd)).map V.str)) := by rw [o10 _ nl9]; exact e9
          have ef10 : H10 fl = some (.lst ((f ++ [y.2]).map fun t => V.int t.num)) := by
            rw [o10 _ nfr]
            refine s9 _ _ ?_
            rw [of8 _ nfr]
            exact e7
          let P3 : List Str → L2.St → Hp → Prop := fun done2 σ H' => (∃ o3, σ = st2 o3 (some (.ref y.1)) (some (.str (r y.2.tl))) (some (.str (r y.2.hd)))) ∧ Same H H' ∧ H' fl = some (.lst ((f ++ [y.2]).map fun t => V.int t.num)) ∧ H' l9 = some (.lst ((w.names.filter fun x => decide (r x = r y.2.hd)).map V.str)) ∧
            DSS H' rd w.names (fun x => if x ∈ done2 then r y.2.tl else r x)
          refine f_list (w.names.filter fun x => decide (r x = r y.2.hd)) V.str P3 (.inl (.inl e11)) ⟨⟨_, rfl⟩, sm10, ef10, e11, e10⟩ (fun _ _ _ H' _ h => .inl (.inl h.2.2.2.1)) (fun done2 n rest2 σ H11 ey2 h => ?_) (fun σ H11 h => ?_)
          · obtain ⟨⟨o3, rfl⟩, s11, ef11, el11, hd11⟩ := h
            have hn : n ∈ w.names := by
              have : n ∈ w.names.filter fun x => decide (r x = r y.2.hd) := by rw [ey2]; simp
              exact (List.mem_filter.mp this).1
            walk_at "w"
            refine hd11.put (by omega) hn fun H12 o12 hd12 => ?_
            walk_at "w"
            refine ⟨⟨_, rfl⟩, o12.same s11 n1, by rw [o12 _ nfr]; exact ef11, by rw [o12 _ nl9]; exact el11, hd12.congr fun x _ => ?_⟩
            by_cases c1 : x = n
            · rw [if_pos c1, if_pos (by rw [c1]; simp)]
            · rw [if_neg c1]
              by_cases c2 : x ∈ done2
              · rw [if_pos c2, if_pos (List.mem_append_left _ c2)]
              · rw [if_neg c2, if_neg (by rw [List.mem_append, List.mem_singleton]; exact fun h => h.elim c2 c1)]
          · obtain ⟨⟨o3, rfl⟩, s11, ef11, el11, hd11⟩ := h
            walk_at "w"
            refine ⟨⟨_, _, _, _, rfl⟩, s11, ?_, by rw [hsn']; exact ef11⟩
            rw [hsn']
            refine hd11.congr fun x hx => ?_
            show _ = if r x = r y.2.hd then r y.2.tl else r x
            by_cases c1 : r x = r y.2.hd
            · rw [if_pos c1, if_pos (List.mem_filter.mpr ⟨hx, decide_eq_true c1⟩)]
            · rw [if_neg c1]
              exact if_neg fun h => c1 (by simpa using (List.mem_filter.mp h).2)
      · walk_at "w"
        have hsn' : forF ((done ++ [y]).map (·.2)) = (r, f) := by rw [hsn]; exact if_pos c
        exact ⟨⟨_, _, _, _, rfl⟩, sm6, by rw [hsn']; exact hd6, by rw [hsn']; exact ef6⟩
    · obtain ⟨⟨o3, o5, o6, o7, rfl⟩, s5, hd5, ef5⟩ := h
      walk_at "w"
      rw [e1] at ef5
      exact q fl H5 n4' s5 ef5
theorem st_forest (a0 : V) : L2.start n_forest [a0] = [some a0] := rfl
theorem pure_forest {w : World} {K : PySem.W.Frag} {mg : Str → Option Value} (T : Tx w K mg) (vs : List V) (H : Hp) (Q : VK) (E : XK) (h : sp_forest K vs H Q E) : t_forest K { nx := fun _ H' => Q .non H', rt := Q } (start n_forest vs) H := by
  show t_forest K (D0 Q) (start n_forest vs) H
  unfold t_forest
  obtain ⟨p, lc, ld, w, rfl, hw, ok, q⟩ := h
  walk_at "w"
  refine ⟨p, lc, ld, w, rfl, hw, ok.tlen, ok.srt, fun l1 H1 n1 s1 hl1 => ?_⟩
  have hw1 := hw.up s1
  walk_at "w"
  refine ⟨p, lc, ld, l1, w, w.ties, rfl, hw1, ok, hl1, ok.tlen, fun t ht => ⟨(ok.tie t ht).tl, (ok.tie t ht).hd⟩, fun l2 H2 n2 s2 e2 => ?_⟩
  walk_at "w"
  exact q l2 H2 (s1.free n2) (s1.trans s2) e2
theorem st_need_forest (a0 a1 : V) : L2.start n_need_forest [a0, a1] = [some a0, some a1, none, none, none] := rfl
theorem pure_need_forest {w : World} {K : PySem.W.Frag} {mg : Str → Option Value} (T : Tx w K mg) (vs : List V) (H : Hp) (Q : VK) (E : XK) (h : sp_need_forest K vs H Q E) : t_need_forest K { nx := fun _ H' => Q .non H', rt := Q } (start n_need_forest vs) H := by
  show t_need_forest K (D0 Q) (start n_need_forest vs) H
  unfold t_need_forest
  obtain ⟨p, lc, ld, l, w, rfl, hw, ok, el, q⟩ := h
  rw [st_need_forest]
  have nd := nums_nodup ok.srt
  have el' : H l = some (.lst (((forestF w.ties).map (·.num)).map V.int)) := by rw [el, List.map_map]; rfl
  have fl48 : (forestF w.ties).length ≤ 48 := by
    rw [← forest_filter nd]
    exact Nat.le_trans (List.length_filter_le _ _) ok.tlen
  walk_at "w"
  walk_at "w"
  refine l_list (forestF w.ties) (fun t => V.int t.num) (fun _ => some (.bl true)) (.inl (.inl el)) (by omega) (fun t ht H1 s1 N k => ?_) (fun a H1 n1 s1 ea => ?_)
  · walk_at "w"
    exact ⟨t.num, rfl, k _ (Same.refl _)⟩
  · walk_at "w"
    have ea' : H1 a = some (.lst (((forestF w.ties).map fun _ => true).map V.bl)) := by rw [ea, List.filterMap_eq_map', List.map_map]; rfl
    refine r_all ea' ?_
    walk_at "w"
    have et : ((forestF w.ties).map fun _ => true).all id = true := by rw [List.all_map, List.all_eq_true]; exact fun _ _ => rfl
    rw [et]
    have hw1 := hw.up s1
    walk_at "w"
    refine ⟨p, lc, ld, w, rfl, hw1, ok.tlen, ok.srt, fun l2 H2 n2 s2 ⟨ys, e1, e2, e3⟩ => ?_⟩
    have yl : ys.length ≤ 48 := by have := ok.tlen; rw [← e1, List.length_map] at this; exact this
    have s12 := s1.trans s2
    refine l_filter ys (fun y => V.ref y.1) (fun y => decide (y.2.num ∈ (forestF w.ties).map (·.num))) (.inl (.inl e2)) (by omega) (fun y hy H3 s3 N k1 k0 => ?_) (fun b H3 n3 s3 eb => ?_)
    · have ht := (e3 y hy).up s3
      have el3 := s3 _ _ (s12 _ _ el')
      walk_at "w"
      refine in_l el3 rfl (flat_int _) ?_
      rw [inV_int]
      walk_at "w"
      refine if_d (fun c => ?_) (fun c => ?_)
      · walk_at "w"
        exact k1 _ (Same.refl _) (decide_eq_true c)
      · exact k0 _ (Same.refl _) (decide_eq_false c)
    · have sm3 := s12.trans s3
      have ef : (ys.filter fun y => decide (y.2.num ∈ (forestF w.ties).map (·.num))).map (·.2) = forestF w.ties := by
        exact (List.filter_map (f := fun y : AT => y.2) (p := fun t : Tr => decide (t.num ∈ (forestF w.ties).map (·.num)))).symm.trans ((congrArg (List.filter fun t : Tr => decide (t.num ∈ (forestF w.ties).map (·.num))) e1).trans (forest_filter nd))
      have hb : TiesL K H3 b (forestF w.ties) := ⟨_, ef, eb, fun y hy => (e3 y (List.mem_filter.mp hy).1).up s3⟩
      have lb : (ys.filter fun y => decide (y.2.num ∈ (forestF w.ties).map (·.num))).length = (forestF w.ties).length := by have := congrArg List.length ef; rw [List.length_map] at this; exact this
      have el3 := sm3 _ _ el
      walk_at "w"
      refine if_nF (by rw [List.length_map, List.length_map, lb]) ?_
      have hw3 := hw.up sm3
      walk_at "w"
      refine ⟨p, lc, ld, b, w, forestF w.ties, rfl, hw3, ok, hb, fl48, fun t ht => ⟨(ok.tie t (forest_sub _ t ht)).tl, (ok.tie t (forest_sub _ t ht)).hd⟩, fun c H4 n4 s4 ec => ?_⟩
      have eb4 := s4 _ _ eb
      walk_at "w"
      refine if_nF (by rw [List.length_map, List.length_map, lb, forest_forest]) ?_
      have hw4 := hw3.up s4
      walk_at "w"
      refine ⟨p, lc, ld, w, rfl, hw4, ok, fun d H5 n5 s5 ed => ?_⟩
      walk_at "w"
      refine if_nF (by rw [List.length_map, List.length_map, lb]) ?_
      walk_at "w"
      exact q b H5 (s12.free n3) ((sm3.trans s4).trans s5) (hb.up (s4.trans s5))
theorem st_ring_by (a0 a1 a2 : V) : L2.start n_ring_by [a0, a1, a2] = [some a0, some a1, some a2, none, none] := rfl
theorem pure_ring_by {w : World} {K : PySem.W.Frag} {mg : Str → Option Value} (T : Tx w K mg) (vs : List V) (H : Hp) (Q : VK) (E : XK) (h : sp_ring_by K vs H Q E) : t_ring_by K { nx := fun _ H' => Q .non H', rt := Q } (start n_ring_by vs) H := by
  show t_ring_by K (D0 Q) (start n_ring_by vs) H
  unfold t_ring_by
  obtain ⟨p, lc, ld, l, w, t, rfl, hw, ok, el, ht, hn, q⟩ := h
  rw [st_ring_by]
  have nd := nums_nodup ok.srt
  have fl48 : (forestF w.ties).length ≤ 48 := by
    rw [← forest_filter nd]
    exact Nat.le_trans (List.length_filter_le _ _) ok.tlen
  walk_at "w"
  refine ⟨p, lc, ld, l, w, rfl, hw, ok, el, fun b H1 n1 s1 hb => ?_⟩
  walk_at "w"
  refine ⟨t.num, rfl, ?_⟩
  have el1 : H1 l = some (.lst (((forestF w.ties).map (·.num)).map V.int)) := by rw [s1 _ _ el, List.map_map]; rfl
  walk_at "w"
  refine in_l el1 rfl (flat_int _) ?_
  rw [inV_int]
  walk_at "w"
  refine if_dF hn ?_
  have hw1 := hw.up s1
  walk_at "w"
  refine ⟨p, lc, ld, w, t, rfl, hw1, ok.srt, ht, fun d hd => ?_⟩
  walk_at "w"
  refine new_l (by simp) fun x H2 n2 s2 ex => ?_
  have hb2 := hb.up s2
  walk_at "w"
  refine ⟨b, _, rfl, hb2, fl48, fun u hu => (ok.tie u (forest_sub _ u hu)).ne, fun be H3 n3 s3 hbe => ?_⟩
  have hd3 := hd.up (s2.trans s3)
  walk_at "w"
  refine ⟨be, _, t.hd, w.names, rfl, hbe, ok.fwithin, (ok.tie t ht).hd, fun cd H4 n4 s4 hc => ?_⟩
  have hd4 := hd3.up s4
  walk_at "w"
  have I := (came_inv ok.fwithin (ok.tie t ht).hd).1
  have fl := cinv_len ok.fwithin (ok.tie t ht).hd I
  refine ⟨cd, _, _, t.hd, t.tl, rfl, hc, I, fl, ?_, fun e H5 n5 s5 ee => ?_⟩
  · rw [came_keys ok.fwithin (ok.tie t ht).hd, forest_conn]
    exact Conn.one ⟨t, ht, .inr ⟨rfl, rfl⟩⟩
  · have wl : (wayF (cameF (adjF (forestF w.ties)) t.hd) t.tl).length ≤ 20 := by
      have : ∀ (n : Nat) (x : Str), (backF (cameF (adjF (forestF w.ties)) t.hd) n x).length ≤ n := by
        intro n
        induction n with
        | zero => intro x; exact Nat.le_refl _
        | succ n ih =>
          intro x
          simp only [backF]
          split
          · rw [List.length_cons]; exact Nat.succ_le_succ (ih _)
          · exact Nat.zero_le _
      unfold wayF
      rw [List.length_reverse]
      exact this 20 _
    refine cat_l (((s3.trans s4).trans s5) _ _ ex) ee (by rw [List.length_map]; simp; omega) fun f H6 n6 s6 e6 => ?_
    walk_at "w"
    have sm := ((((s1.trans s2).trans s3).trans s4).trans s5)
    exact q f H6 (sm.free n6) (sm.trans s6) e6
section
variable {K : PySem.W.Frag} {H H' H0 : Hp} {d : Addr} {F : Came Str} {Q : VK} {σ : L2.St} {v x y z : V} {g : TG} {t : TT} {te : TE} {D : Ends} {s1 : TS}
/-- a dict from names to numbers -/
def DSI (H : Hp) (d : Addr) (L : List (Str × Int)) : Prop := H d = some (.dK (L.map fun e => (Sum.inr e.1, V.int e.2)))
theorem DSI.in_s {L : List (Str × Int)} {n : Str} {neg : Bool} (h : DSI H d L) (q : Q (.bl (if neg then !decide (n ∈ L.map (·.1)) else decide (n ∈ L.map (·.1)))) H) : InR neg (.str n) (.ref d) H Q := by
  refine RB.in_s h ?_
  rw [valV_isS (f := fun e : Str × Int => e.1)]
  exact q
theorem keysI_nd {L : List (Str × Int)} (nd : (L.map (·.1)).Nodup) : (L.map fun e => (Sum.inr e.1 : Key)).Nodup := by
  rw [List.nodup_iff_pairwise_ne] at nd ⊢
  rw [List.pairwise_map] at nd ⊢
  exact nd.imp fun h e => h (Sum.inr.inj e)
theorem DSI.get {L : List (Str × Int)} {n : Str} {c : Int} (h : DSI H d L) (nd : (L.map (·.1)).Nodup) (hn : n ∈ L.map (·.1)) (hc : ∀ e ∈ L, e.1 = n → e.2 = c) (q : Q (.int c) H) : GetR (.ref d) (.str n) H Q := by
  obtain ⟨e, he, rfl⟩ := List.mem_map.mp hn
  have ev := valV_at (k := fun e : Str × Int => (Sum.inr e.1 : Key)) (v := fun e => V.int e.2) (keysI_nd nd) he
  rw [hc e he rfl] at ev
  exact get_s h ev q
theorem DSI.put {L : List (Str × Int)} {n : Str} {c : Int} (h : DSI H d L) (hl : L.length ≤ 1000) (hn : n ∉ L.map (·.1)) {q : Hp → Prop} (k : ∀ H', Only d H H' → DSI H' d (L ++ [(n, c)]) → q H') : PutR (.int c) (.ref d) (.str n) H q := by
  refine put_s h (by rw [List.length_map]; omega) ?_
  rw [putK_new (k := fun e : Str × Int => (Sum.inr e.1 : Key)) (v := fun e => V.int e.2) fun y hy e => hn (by rw [← Sum.inr.inj e]; exact List.mem_map_of_mem hy)]
  refine k _ Only.upd ?_
  unfold DSI
  rw [upd_same, List.map_append]
  rfl
def LockS (t : TS) (D : Ends) (σ : L2.St) (H : Hp) : Prop := ∃ d u, H d = some u ∧ Mut (some u) ∧ ∀ od, t ⟨fun σ' H' => H' d = some (.frz od u) ∧ D.nx σ' (upd H' d u), fun v H' => H' d = some (.frz od u) ∧ D.rt v (upd H' d u), fun σ' H' => H' d = some (.frz od u) ∧ D.bk σ' (upd H' d u), fun σ' H' => H' d = some (.frz od u) ∧ D.ct σ' (upd H' d u)⟩ σ (upd H d (.frz od u))
def dLock (d : Addr) (u : HO) (od : Obj) (D : Ends) : Ends := ⟨fun σ' H' => H' d = some (.frz od u) ∧ D.nx σ' (upd H' d u), fun v H' => H' d = some (.frz od u) ∧ D.rt v (upd H' d u), fun σ' H' => H' d = some (.frz od u) ∧ D.bk σ' (upd H' d u), fun σ' H' => H' d = some (.frz od u) ∧ D.ct σ' (upd H' d u)⟩
theorem v_lock {u : HO} (h : H d = some u) (m : Mut (some u)) (q : ∀ od H', Only d H H' → H' d = some (.frz od u) → s1 (dLock d u od D) σ H') : tLock s1 D σ H := ⟨d, u, h, m, fun od => q od _ Only.upd upd_same⟩
theorem n_lock {u : HO} {od : Obj} (h : H d = some (.frz od u)) (q : ∀ H', Only d H H' → H' d = some u → D.nx σ H') : (dLock d u od D).nx σ H := ⟨h, q _ Only.upd upd_same⟩
/-- for over a locked dict's keys -/
theorem f_keys {o : Obj} {β : Type} (ys : List β) (k : β → Key) (w : β → V) (P : List β → L2.St → Hp → Prop) (hx : H d = some (.frz o (.dK (ys.map fun y => (k y, w y))))) (h0 : P [] σ H)
    (keep : ∀ done rest σ' H', ys = done ++ rest → P done σ' H' → H' d = some (.frz o (.dK (ys.map fun y => (k y, w y)))))
    (turn : ∀ done y rest σ' H', ys = done ++ y :: rest → P done σ' H' → g (kV (k y)) σ' H' fun σ2 H2 => s1 (dFor (P (done ++ [y])) D) σ2 H2)
    (fin : ∀ σ' H', P ys σ' H' → D.nx σ' H') : ItK (.ref d) H fun J H1 => ForW J g s1 D σ H1 :=
  ⟨d, o, rfl, .inl ⟨_, hx, forG ys.length (fun i σ' H' => P (ys.take i) σ' H') h0 (fun i σ' H' hi p => ⟨keep (ys.take i) (ys.drop i) σ' H' (List.take_append_drop _ _).symm p, by rw [List.length_map]; exact hi⟩)
    (fun σ' H' p => ⟨keep _ (ys.drop ys.length) σ' H' (List.take_append_drop _ _).symm p, by rw [List.length_map]; exact Nat.le_refl _⟩) (fun i σ' H' hi p x H2 yl => by
      obtain ⟨rfl, k', v', hk, rfl⟩ := yl
      have e1 : ys[i]? = some ys[i] := List.getElem?_eq_getElem hi
      rw [List.getElem?_map, e1] at hk
      have hk := Option.some.inj hk
      injection hk with hk1 hk2
      subst hk1
      have q := turn (ys.take i) ys[i] (ys.drop (i + 1)) σ' _ (split_at e1) p
      rw [← take_snoc e1] at q
      exact q) fun σ' H' p => fin σ' H' (by rw [List.take_length] at p; exact p)⟩⟩
end
theorem mk_Sides {K : PySem.W.Frag} {H : Hp} {Q : VK} {l : Addr} {kvs : List (Key × V)} (hl : H l = some (.dK kvs)) (h : ∀ p q dx H', H p = none → H q = none → Same H H' → H' p = some (.ins (He.ga K "Sides") dx [("sides", .ref q)]) → H' q = some (.dK kvs) → Q (.ref p) H') : MkR (He.ga K "Sides") (sp_Sides_init K) [.ref l] E0 H Q := by
  intro p dx n1 n2 n3
  have s1 : Same H (upd (upd H dx (.own p)) p (.ins (He.ga K "Sides") dx [])) := same_own (same_new n2) n1
  refine ⟨p, dx, l, kvs, rfl, upd_same, s1 _ _ hl, fun q H1 nq k1 e1 e2 => ⟨rfl, h p q dx H1 n1 (s1.free nq) (fun c o hc => ?_) e1 e2⟩⟩
  exact k1 c o (by rw [List.mem_singleton]; exact ne_of_none hc n1) (s1 _ _ hc)
theorem way_len (F : Came Str) (g : Str) : (wayF F g).length ≤ 20 := by
  have : ∀ (n : Nat) (x : Str), (backF F n x).length ≤ n := by
    intro n
    induction n with
    | zero => intro x; exact Nat.le_refl _
    | succ n ih =>
      intro x
      simp only [backF]
      split
      · rw [List.length_cons]; exact Nat.succ_le_succ (ih _)
      · exact Nat.zero_le _
  unfold wayF
  rw [List.length_reverse]
  exact this 20 _
theorem st_sides (a0 : V) : L2.start n_sides [a0] = [some a0, none, none, none, none, none, none, none, none] := rfl
theorem pure_sides {w : World} {K : PySem.W.Frag} {mg : Str → Option Value} (T : Tx w K mg) (vs : List V) (H : Hp) (Q : VK) (E : XK) (h : sp_sides K vs H Q E) : t_sides K { nx := fun _ H' => Q .non H', rt := Q } (start n_sides vs) H := by
  show t_sides K (D0 Q) (start n_sides vs) H
  unfold t_sides
  obtain ⟨p, lc, ld, w, c, rfl, hw, ok, hp, q⟩ := h
  rw [st_sides]
  have nd := nums_nodup ok.srt
  have wl := ok.len
  have Wf := ok.fwithin
  have fl48 : (forestF w.ties).length ≤ 48 := by
    rw [← forest_filter nd]
    exact Nat.le_trans (List.length_filter_le _ _) ok.tlen
  walk_at "w"
  refine ⟨p, lc, ld, w, rfl, hw, ok.tlen, ok.srt, fun l1 H1 n1 s1 ⟨ys, e1, e2, e3⟩ => ?_⟩
  have yl : ys.length ≤ 48 := by have := ok.tlen; rw [← e1, List.length_map] at this; exact this
  have hw1 := hw.up s1
  walk_at "w"
  refine ⟨p, lc, ld, w, rfl, hw1, ok, fun l2 H2 n2 s2 el2 => ?_⟩
  walk_at "w"
  refine l_filter ys (fun y => V.ref y.1) (fun y => decide (y.2.num ∈ (forestF w.ties).map (·.num))) (.inl (.inl (s2 _ _ e2))) (by omega) (fun y hy H3 s3 N k1 k0 => ?_) (fun l3 H3 n3 s3 e3' => ?_)
  · have ht := (e3 y hy).up (s2.trans s3)
    have el3 : H3 l2 = some (.lst (((forestF w.ties).map (·.num)).map V.int)) := by rw [s3 _ _ el2, List.map_map]; rfl
    walk_at "w"
    refine in_l el3 rfl (flat_int _) ?_
    rw [inV_int]
    walk_at "w"
    refine if_d (fun c => ?_) (fun c => ?_)
    · walk_at "w"
      exact k1 _ (Same.refl _) (decide_eq_true c)
    · exact k0 _ (Same.refl _) (decide_eq_false c)
  have ef : (ys.filter fun y => decide (y.2.num ∈ (forestF w.ties).map (·.num))).map (·.2) = forestF w.ties := by
    exact (List.filter_map (f := fun y : AT => y.2) (p := fun t : Tr => decide (t.num ∈ (forestF w.ties).map (·.num)))).symm.trans ((congrArg (List.filter fun t : Tr => decide (t.num ∈ (forestF w.ties).map (·.num))) e1).trans (forest_filter nd))
  have hl3 : TiesL K H3 l3 (forestF w.ties) := ⟨_, ef, e3', fun y hy => (e3 y (List.mem_filter.mp hy).1).up (s2.trans s3)⟩
  walk_at "w"
  refine ⟨l3, _, rfl, hl3, fl48, fun u hu => (ok.tie u (forest_sub _ u hu)).ne, fun be H4 n4 s4 hbe => ?_⟩
  walk_at "w"
  refine v_dnew fun fd H5 n5 s5 ed => ?_
  have sm5 := (((s1.trans s2).trans s3).trans s4).trans s5
  have n5' : H fd = none := (((s1.trans s2).trans s3).trans s4).free n5
  have hbe5 := hbe.up s5
  have hw5 := hw.up sm5
  walk_at "w"
  refine ⟨p, lc, ld, w, rfl, hw5, fun l6 H6 n6 s6 e6 => ?_⟩
  have sm6 := sm5.trans s6
  let st : Option V → Option V → Option V → Option V → L2.St := fun o5 o6 o7 o8 => [some (.ref p), some (.ref l1), some (.ref l2), some (.ref be), some (.ref fd), o5, o6, o7, o8]
  let P : List Str → L2.St → Hp → Prop := fun done σ H' => (∃ o5 o6 o7, σ = st o5 o6 o7 none) ∧ Keep [fd] H6 H' ∧ ∃ L : List (Str × Int), DSI H' fd L ∧ L.length ≤ 16 * done.length ∧ (L.map (·.1)).Nodup ∧ (∀ x, x ∈ L.map (·.1) ↔ ∃ y ∈ done, Conn w.ties y x) ∧ ∀ e ∈ L, e.2 = colF w.ties w.names c e.1
  have fr6 : ∀ {H'}, Keep [fd] H6 H' → (∀ c o, H4 c = some o → H' c = some o) ∧ Same H H' := fun {H'} k => by
    have a : ∀ c o, H4 c = some o → H' c = some o := fun c o h => k c o (by rw [List.mem_singleton]; exact ne_of_none h n5) (s6 _ _ (s5 _ _ h))
    exact ⟨a, fun c o h => a c o ((((s1.trans s2).trans s3).trans s4) _ _ h)⟩
  have l6f : l6 ∉ [fd] := by rw [List.mem_singleton]; exact (ne_of_none ed n6).symm
  refine f_list w.names V.str P (.inl (.inl e6)) ⟨⟨none, none, none, rfl⟩, Keep.refl _ _, [], s6 _ _ ed, Nat.le_refl _, List.nodup_nil, fun x => ⟨fun h => (nomatch h), fun ⟨y, hy, _⟩ => (nomatch hy)⟩, fun e he => (nomatch he)⟩
    (fun _ _ _ H' _ h => .inl (.inl (h.2.1 _ _ l6f e6))) (fun done n rest σ H7 ey h => ?_) (fun σ H7 h => ?_)
  · obtain ⟨⟨o5, o6, o7, rfl⟩, k7, L, hL, Ll, Ln, Lk, Lc⟩ := h
    have hn : n ∈ w.names := by rw [ey]; simp
    have dl : done.length ≤ 16 := by
      have := congrArg List.length ey
      rw [List.length_append] at this
      omega
    have hbe7 : Bes H7 be (adjF (forestF w.ties)) := hbe.up (fr6 k7).1
    have sm7 := (fr6 k7).2
    walk_at "w"
    refine hL.in_s ?_
    walk_at "w"
    refine if_n (fun c1 => ?_) (fun c1 => ?_)
    · have c1' : ¬ ∃ y ∈ done, Conn w.ties y n := fun h => c1 ((Lk n).mpr h)
      walk_at "w"
      refine ⟨be, _, n, w.names, rfl, hbe7, Wf, hn, fun cd H8 n8 s8 hc8 => ?_⟩
      have I := (came_inv Wf hn).1
      have Fl := cinv_len Wf hn I
      have kc := came_keys Wf hn
      have Fw := cinv_within Wf hn I
      generalize hF : cameF (adjF (forestF w.ties)) n = F at hc8 I Fl kc Fw
      obtain ⟨zs, z1, z2, z3⟩ := hc8
      have zl : zs.length = F.length := by rw [← z1, List.length_map]
      have ncf : cd ≠ fd := (ne_of_none hL n8).symm
      have cn8 : H cd = none := sm7.free n8
      walk_at "w"
      refine v_lock z2 trivial fun od H9 o9 e9 => ?_
      have hL9 : DSI H9 fd L := by unfold DSI; rw [o9 _ ncf.symm]; exact s8 _ _ hL
      have z39 : ∀ z ∈ zs, H9 z.1 = some (.tup (tupO z.2.2)) := fun z hz => by rw [o9 _ (ne_obj (z3 z hz) z2 (by intro e; cases e))]; exact z3 z hz
      walk_at "w"
      refine i_keys ?_
      walk_at "w"
      let P3 : List (Addr × Str × Option (Int × Str)) → L2.St → Hp → Prop := fun d2 σ H' => (∃ o7, σ = st (some (.str n)) (some (.ref cd)) o7 none) ∧ Keep [fd] H9 H' ∧ DSI H' fd (L ++ d2.map fun z => (z.2.1, colF w.ties w.names c z.2.1))
      have fr9 : ∀ {H'}, Keep [fd] H9 H' → H' cd = some (.frz od (.dK (zs.map fun y => (Sum.inr y.2.1, V.ref y.1)))) ∧ ∀ z ∈ zs, H' z.1 = some (.tup (tupO z.2.2)) := fun k => ⟨k _ _ (by rw [List.mem_singleton]; exact ncf) e9, fun z hz => k _ _ (by rw [List.mem_singleton]; exact ne_obj (z39 z hz) hL9 (by intro e; cases e)) (z39 z hz)⟩
      have zk : zs.map (fun z => z.2.1) = ckeys F := by rw [← z1]; unfold ckeys; rw [List.map_map]; rfl
      have znd : (zs.map fun z => (Sum.inr z.2.1 : Key)).Nodup := by
        have h := I.nd
        rw [← zk] at h
        rw [List.nodup_iff_pairwise_ne] at h ⊢
        rw [List.pairwise_map] at h ⊢
        exact h.imp fun h e => h (Sum.inr.inj e)
      have zconn : ∀ z ∈ zs, Conn w.ties n z.2.1 := fun z hz => by
        rw [← forest_conn, ← kc, ← zk]
        exact List.mem_map_of_mem (f := fun z : Addr × Str × Option (Int × Str) => z.2.1) hz
      refine f_keys zs (fun z => Sum.inr z.2.1) (fun z => V.ref z.1) P3 e9 ⟨⟨_, rfl⟩, Keep.refl _ _, by rw [List.map_nil, List.append_nil]; exact hL9⟩ (fun _ _ _ H' _ h => (fr9 h.2.1).1) (fun d2 z rest2 σ H10 ey2 h => ?_) (fun σ H10 h => ?_)
      · obtain ⟨⟨o7, rfl⟩, k10, hL10⟩ := h
        obtain ⟨f1, f2⟩ := fr9 k10
        have hz : z ∈ zs := by rw [ey2]; simp
        have d2l : d2.length ≤ 16 := by
          have := congrArg List.length ey2
          rw [List.length_append] at this
          omega
        have et := f2 z hz
        have hzi : F[d2.length]? = some z.2 := by
          rw [← z1, ey2, List.getElem?_map, List.getElem?_append_right (Nat.le_refl _), Nat.sub_self]
          rfl
        have fresh : z.2.1 ∉ (L ++ d2.map fun z => (z.2.1, colF w.ties w.names c z.2.1)).map (·.1) := by
          rw [List.map_append, List.map_map, List.mem_append]
          rintro (h | h)
          · obtain ⟨y, hy, hc⟩ := (Lk _).mp h
            exact c1' ⟨y, hy, hc.trans (zconn z hz).symm⟩
          · obtain ⟨u, hu, e⟩ := List.mem_map.mp h
            have h := I.nd
            rw [← zk, ey2, List.map_append, List.map_cons] at h
            exact (List.nodup_append.mp h).2.2 _ (List.mem_map_of_mem (f := fun z : Addr × Str × Option (Int × Str) => z.2.1) hu) _ List.mem_cons_self e
        have fin : ∀ v : Int, v = colF w.ties w.names c z.2.1 → ∀ q : Hp → Prop, (∀ H'', Keep [fd] H9 H'' → DSI H'' fd (L ++ (d2 ++ [z]).map fun z => (z.2.1, colF w.ties w.names c z.2.1)) → q H'') → PutR (.int v) (.ref fd) (.str z.2.1) H10 q := by
          rintro v rfl q hq
          refine hL10.put (by rw [List.length_append, List.length_map]; omega) fresh fun H'' oo hd => hq H'' (fun a o ha ho => by rw [oo _ (by simpa using ha)]; exact k10 a o ha ho) ?_
          rw [List.map_append, ← List.append_assoc]
          exact hd
        have gz : ∀ {Q : VK}, Q (.ref z.1) H10 → GetR (.ref cd) (.str z.2.1) H10 Q := fun q => get_f f1 znd hz q
        walk_at "w"
        refine gz ?_
        walk_at "w"
        rw [tupO_eq] at et
        refine ix_t (n := 1) et rfl ?_
        walk_at "w"
        rcases I.par _ _ _ hzi with ⟨_, hk, ho⟩ | ⟨m, h, j, o', ho, hj, hq, hB⟩
        · rw [ho]
          refine if_dT rfl ?_
          walk_at "w"
          refine fin 0 (by rw [hk, ey, col_first c1']) _ fun H'' kk hd => ?_
          walk_at "w"
          exact ⟨⟨_, rfl⟩, kk, hd⟩
        · rw [ho]
          refine if_dF (by intro e; cases e) ?_
          walk_at "w"
          refine gz ?_
          walk_at "w"
          rw [ho] at et
          refine ix_t (n := 1) et rfl ?_
          have hjl : j < zs.length := by rw [zl]; exact (List.getElem?_eq_some_iff.mp hq).1
          obtain ⟨u, hu⟩ : ∃ u, zs[j]? = some u := ⟨_, List.getElem?_eq_getElem hjl⟩
          have hu2 : u.2 = (h, o') := by
            rw [← z1, List.getElem?_map, hu] at hq
            exact Option.some.inj hq
          have hud : u ∈ d2 := by
            rw [ey2, List.getElem?_append_left hj] at hu
            exact List.mem_of_getElem? hu
          have hch : Conn w.ties h z.2.1 := by
            have h1 := zconn u (by rw [ey2]; exact List.mem_append_left _ hud)
            rw [hu2] at h1
            exact h1.symm.trans (zconn z hz)
          have hhn : h ∈ w.names := Fw h (by rw [← zk]; exact List.mem_map.mpr ⟨u, by rw [ey2]; exact List.mem_append_left _ hud, by rw [hu2]⟩)
          have hcol : colF w.ties w.names c z.2.1 = 1 - colF w.ties w.names c h := by
            refine col_flip hch hhn ?_
            obtain ⟨t, ht, _, e⟩ := mem_adjF.mp hB
            have := hp t ht
            rcases e with ⟨e1, e2⟩ | ⟨e1, e2⟩
            · rw [← e1, ← e2]; exact this
            · rw [← e1, ← e2]; exact this.symm
          have nk : ((L ++ d2.map fun z => (z.2.1, colF w.ties w.names c z.2.1)).map (·.1)).Nodup := by
            rw [List.map_append, List.map_map, List.nodup_append]
            refine ⟨Ln, ?_, ?_⟩
            · have h := I.nd
              rw [← zk, ey2, List.map_append] at h
              exact (List.nodup_append.mp h).1
            · rintro a ha b hb rfl
              obtain ⟨y, hy, hc⟩ := (Lk _).mp ha
              obtain ⟨v, hv, e⟩ := List.mem_map.mp hb
              have e : v.2.1 = a := e
              rw [← e] at hc
              exact c1' ⟨y, hy, hc.trans (zconn v (by rw [ey2]; exact List.mem_append_left _ hv)).symm⟩
          walk_at "w"
          refine hL10.get (c := colF w.ties w.names c h) nk ?_ ?_ ?_
          · rw [List.map_append, List.map_map]
            exact List.mem_append_right _ (List.mem_map.mpr ⟨u, hud, by show u.2.1 = h; rw [hu2]⟩)
          · intro e he en
            rcases List.mem_append.mp he with he | he
            · rw [Lc e he, en]
            · obtain ⟨v, hv, ev⟩ := List.mem_map.mp he
              rw [← ev] at en ⊢
              show colF _ _ _ v.2.1 = _
              rw [show v.2.1 = h from en]
          · walk_at "w"
            refine fin _ hcol.symm _ fun H'' kk hd => ?_
            walk_at "w"
            exact ⟨⟨_, rfl⟩, kk, hd⟩
      · obtain ⟨⟨o7, rfl⟩, k10, hL10⟩ := h
        obtain ⟨f1, f2⟩ := fr9 k10
        refine n_lock f1 fun H11 o11 e11 => ?_
        walk_at "w"
        refine ⟨⟨_, _, _, rfl⟩, fun a o ha ho => ?_, L ++ zs.map (fun z => (z.2.1, colF w.ties w.names c z.2.1)), ?_, ?_, ?_, ?_, ?_⟩
        · have h7 := k7 a o ha ho
          have na : a ≠ cd := ne_of_none h7 n8
          rw [o11 _ na]
          refine k10 a o ha ?_
          rw [o9 _ na]
          exact s8 _ _ h7
        · unfold DSI
          rw [o11 _ ncf.symm]
          exact hL10
        · rw [List.length_append, List.length_append, List.length_map, List.length_singleton]
          omega
        · rw [List.map_append, List.map_map, List.nodup_append]
          refine ⟨Ln, ?_, ?_⟩
          · have h := I.nd
            rw [← zk] at h
            exact h
          · rintro a ha b hb rfl
            obtain ⟨y, hy, hc⟩ := (Lk _).mp ha
            obtain ⟨v, hv, e⟩ := List.mem_map.mp hb
            have e : v.2.1 = a := e
            rw [← e] at hc
            exact c1' ⟨y, hy, hc.trans (zconn v hv).symm⟩
        · intro x
          rw [List.map_append, List.map_map, List.mem_append, Lk]
          constructor
          · rintro (⟨y, hy, h⟩ | h)
            · exact ⟨y, List.mem_append_left _ hy, h⟩
            · obtain ⟨v, hv, e⟩ := List.mem_map.mp h
              have e : v.2.1 = x := e
              exact ⟨n, by simp, by rw [← e]; exact zconn v hv⟩
          · rintro ⟨y, hy, h⟩
            rcases List.mem_append.mp hy with hy | hy
            · exact .inl ⟨y, hy, h⟩
            · rw [List.mem_singleton.mp hy] at h
              refine .inr ?_
              have : x ∈ ckeys F := by rw [kc, forest_conn]; exact h
              rw [← zk] at this
              exact this
        · intro e he
          rcases List.mem_append.mp he with he | he
          · exact Lc e he
          · obtain ⟨v, hv, ev⟩ := List.mem_map.mp he
            rw [← ev]
    · walk_at "w"
      have c1' : ∃ y ∈ done, Conn w.ties y n := (Lk n).mp c1
      refine ⟨⟨_, _, _, rfl⟩, k7, L, hL, by rw [List.length_append]; omega, Ln, fun x => (Lk x).trans ⟨fun ⟨y, hy, h⟩ => ⟨y, List.mem_append_left _ hy, h⟩, fun ⟨y, hy, h⟩ => ?_⟩, Lc⟩
      rcases List.mem_append.mp hy with hy | hy
      · exact ⟨y, hy, h⟩
      · rw [List.mem_singleton.mp hy] at h
        obtain ⟨z, hz, hc⟩ := c1'
        exact ⟨z, hz, hc.trans h⟩
  · obtain ⟨⟨o5, o6, o7, rfl⟩, k7, L, hL, Ll, Ln, Lk, Lc⟩ := h
    obtain ⟨fr7, sm7⟩ := fr6 k7
    have hbe7 : Bes H7 be (adjF (forestF w.ties)) := hbe.up fr7
    have Lk' : ∀ x, x ∈ L.map (·.1) ↔ x ∈ w.names := fun x => (Lk x).trans ⟨fun ⟨y, hy, h⟩ => cinv_within Wf hy (came_inv Wf hy).1 x (by rw [came_keys Wf hy, forest_conn]; exact h), fun hx => ⟨x, hx, .refl x⟩⟩
    have e27 : H7 l1 = some (.lst (ys.map fun y => V.ref y.1)) := fr7 _ _ (((s2.trans s3).trans s4) _ _ e2)
    walk_at "w"
    let P2 : List AT → L2.St → Hp → Prop := fun done σ H' => (∃ o8, σ = st o5 o6 o7 o8) ∧ H' = H7 ∧ ∀ y ∈ done, c y.2.tl ≠ c y.2.hd
    refine f_list ys (fun y => V.ref y.1) P2 (.inl (.inl e27)) ⟨⟨_, rfl⟩, rfl, fun y hy => (nomatch hy)⟩ (fun _ _ _ H' _ h => .inl (.inl (by rw [h.2.1]; exact e27))) (fun done y rest σ H8 ey h => ?_) (fun σ H8 h => ?_)
    · obtain ⟨⟨o8, rfl⟩, rfl, hd⟩ := h
      have hy : y ∈ ys := by rw [ey]; simp
      have hyt : y.2 ∈ w.ties := by rw [← e1]; exact List.mem_map_of_mem hy
      have tk := ok.tie _ hyt
      have ht : TieAt K H8 y.1 y.2 := let ⟨dx, h⟩ := e3 y hy; ⟨dx, fr7 _ _ (((s2.trans s3).trans s4) _ _ h)⟩
      walk_at "w"
      refine hL.get Ln ((Lk' _).mpr tk.tl) (fun e he en => by rw [Lc e he, en]) ?_
      walk_at "w"
      refine hL.get Ln ((Lk' _).mpr tk.hd) (fun e he en => by rw [Lc e he, en]) ?_
      walk_at "w"
      have cs := col_same (ts := w.ties) (names := w.names) (c := c) (Conn.one ⟨y.2, hyt, .inl ⟨rfl, rfl⟩⟩) tk.tl
      refine if_d (fun c1 => ?_) (fun c1 => ?_)
      · have c2 := cs.mp c1
        have np : properB w.ties c = false := by
          cases e : properB w.ties c with
          | false => rfl
          | true => exact absurd c2 (properB_iff.mp e _ hyt)
        walk_at "w"
        refine new_l (by simp) fun l9 H9 n9 s9 e9 => ?_
        have ht9 := ht.up s9
        have hbe9 := hbe7.up s9
        walk_at "w"
        refine ⟨be, _, y.2.hd, w.names, rfl, hbe9, Wf, tk.hd, fun cd H10 n10 s10 hc => ?_⟩
        have ht10 := ht9.up s10
        have I := (came_inv Wf tk.hd).1
        walk_at "w"
        refine ⟨cd, _, _, y.2.hd, y.2.tl, rfl, hc, I, cinv_len Wf tk.hd I, ?_, fun e H11 n11 s11 ee => ?_⟩
        · rw [came_keys Wf tk.hd, forest_conn]
          exact Conn.one ⟨y.2, hyt, .inr ⟨rfl, rfl⟩⟩
        refine cat_l ((s10.trans s11) _ _ e9) ee (by rw [List.length_map]; have := way_len (cameF (adjF (forestF w.ties)) y.2.hd) y.2.tl; simp; omega) fun f H12 n12 s12 e12 => ?_
        walk_at "w"
        refine mk_L e12 fun r x dx H13 n13 _ s13 e13 e14 => ?_
        walk_at "w"
        refine q r H13 ((((sm7.trans s9).trans s10).trans s11).trans (s12.trans s13)) ?_
        rw [if_neg (by rw [np]; exact Bool.false_ne_true)]
        exact ⟨dx, _, e13⟩
      · walk_at "w"
        refine ⟨⟨_, rfl⟩, rfl, fun u hu => ?_⟩
        rcases List.mem_append.mp hu with hu | hu
        · exact hd u hu
        · rw [List.mem_singleton.mp hu]
          exact fun e => c1 (cs.mpr e)
    · obtain ⟨⟨o8, rfl⟩, rfl, hd⟩ := h
      walk_at "w"
      have pp : properB w.ties c = true := properB_iff.mpr fun t ht => by
        rw [← e1] at ht
        obtain ⟨y, hy, rfl⟩ := List.mem_map.mp ht
        exact hd y hy
      refine mk_Sides hL fun r x dx H9 n9 _ s9 e9 e10 => ?_
      walk_at "w"
      refine q r H9 (sm7.trans s9) ?_
      rw [if_pos pp]
      exact ⟨dx, x, L, e9, e10, Ln, Lk', Lc⟩
section
variable {K : PySem.W.Frag} {H H' H0 : Hp} {Q : VK} {σ : L2.St} {v x y z : V}
theorem if_c {b : Bool} {A B : Prop} (ht : b = true → A) (hf : b = false → B) : if b = true then A else B := by
  cases b with
  | true => exact ht rfl
  | false => exact hf rfl
theorem join_s {p : Addr} {s : Str} (ys : List Str) (h : H p = some (.lst (ys.map V.str))) (l : (ys.map (·.length)).sum + ys.length * s.length ≤ 16777216) (q : Q (.str (Txt.join s ys)) H) : mJoin K (.str s) [.ref p] H Q := ⟨s, p, ys, rfl, rfl, .inl (.inl (.inl h)), l, q⟩
theorem ext_l {a b : Addr} {xs zs : List V} (h1 : H a = some (.lst xs)) (h2 : H b = some (.lst zs)) (l : xs.length + zs.length ≤ 100000) (q : ∀ H', Only a H H' → H' a = some (.lst (xs ++ zs)) → Q .non H') : rExtend (.ref a) [.ref b] H Q := ⟨a, b, xs, zs, rfl, rfl, h1, h2, sz l, q _ Only.upd upd_same⟩
theorem app_lo {p : Addr} {xs : List V} (h : H p = some (.lst xs)) (l : xs.length ≤ 100000) (q : ∀ H', Only p H H' → H' p = some (.lst (xs ++ [y])) → Q .non H') : rAppend (.ref p) [y] H Q := app_l h l (q _ Only.upd upd_same)
theorem eqD_nil {a b : Addr} (h1 : H a = some (.lst [])) (h2 : H b = some (.lst [])) (q : Q (.bl true) H) : rEqD K (.ref a) (.ref b) H Q := ⟨.list [], .list [], .lst (.inl (.inl h1)) .nil, .lst (.inl (.inl h2)) .nil, rfl, rfl, q⟩
theorem way_len3 : ("way" : Str).length = 3 := by decide +kernel
theorem tie_len3 : ("tie" : Str).length = 3 := by decide +kernel
theorem sp_len1 : (" " : Str).length = 1 := by decide +kernel
theorem kind_dec (b : Bool) : decide ((if b = true then "way" else "tie" : Str) = "way") = b := by cases b <;> decide +kernel
end
theorem st_tie_line (a0 : V) : L2.start n_tie_line [a0] = [some a0, none] := rfl
theorem pure_tie_line {w : World} {K : PySem.W.Frag} {mg : Str → Option Value} (T : Tx w K mg) (vs : List V) (H : Hp) (Q : VK) (E : XK) (h : sp_tie_line K vs H Q E) : t_tie_line K { nx := fun _ H' => Q .non H', rt := Q } (start n_tie_line vs) H := by
  show t_tie_line K (D0 Q) (start n_tie_line vs) H
  unfold t_tie_line
  obtain ⟨p, t, rfl, ht, n0, n1, l0, l1, o1, o2, q⟩ := h
  rw [st_tie_line]
  have a1 := num_len n0 n1
  have a2 := num_len l0 l1
  have a3 := o1.len
  have a4 := o2.len
  walk_at "w"
  refine if_c (fun c => ?_) (fun c => ?_)
  all_goals
    walk_at "w"
    refine ⟨t.num, rfl, n0, n1, ?_⟩
    walk_at "w"
    refine ⟨t.load, rfl, l0, l1, ?_⟩
    walk_at "w"
    refine new_l (by simp) fun a H1 na s1 ea => ?_
    have q1 := q H1 s1
    unfold tieT at q1
    rw [c] at q1
    refine join_s [_, numT t.num, t.tl, t.hd, numT t.load] ea ?_ q1
    have b1 := way_len3
    have b2 := tie_len3
    have b3 := sp_len1
    simp only [List.map_cons, List.map_nil, List.sum_cons, List.sum_nil, List.length_cons, List.length_nil]
    omega
theorem st_web_lines (a0 : V) : L2.start n_web_lines [a0] = [some a0, none, none, none] := rfl
theorem pure_web_lines {w : World} {K : PySem.W.Frag} {mg : Str → Option Value} (T : Tx w K mg) (vs : List V) (H : Hp) (Q : VK) (E : XK) (h : sp_web_lines K vs H Q E) : t_web_lines K { nx := fun _ H' => Q .non H', rt := Q } (start n_web_lines vs) H := by
  show t_web_lines K (D0 Q) (start n_web_lines vs) H
  unfold t_web_lines
  obtain ⟨p, lc, ld, w, rfl, hw, ok, q⟩ := h
  rw [st_web_lines]
  have wl := ok.ok.len
  have tl48 := ok.ok.tlen
  walk_at "w"
  refine ⟨p, lc, ld, w, rfl, hw, fun l1 H1 n1 s1 e1 => ?_⟩
  refine l_list w.names V.str (fun x => some (.str ("point " ++ x))) (.inl (.inl e1)) (by omega) (fun x hx H2 s2 N k => ?_) (fun l2 H2 n2 s2 e2 => ?_)
  · walk_at "w"
    have a1 := (ok.nm x hx).len
    have a2 : ("point " : Str).length = 6 := by decide +kernel
    refine o_addS (by omega) ?_
    exact k _ (Same.refl _)
  · rw [List.filterMap_eq_map'] at e2
    have hw2 := hw.up (s1.trans s2)
    have n2' := s1.free n2
    walk_at "w"
    refine ⟨p, lc, ld, w, rfl, hw2, tl48, ok.ok.srt, fun l3 H3 n3 s3 ⟨ys, y1, y2, y3⟩ => ?_⟩
    have yl : ys.length ≤ 48 := by rw [← y1, List.length_map] at tl48; exact tl48
    refine l_list ys (fun y => V.ref y.1) (fun y => some (.str (tieT y.2))) (.inl (.inl y2)) (by omega) (fun y hy H4 s4 N k => ?_) (fun l4 H4 n4 s4 e4 => ?_)
    · have hyt : y.2 ∈ w.ties := by rw [← y1]; exact List.mem_map_of_mem hy
      have tk := ok.ok.tie _ hyt
      have h3 := tk.low
      have h4 := tk.high
      have h5 := ok.gv
      walk_at "w"
      exact ⟨y.1, y.2, rfl, (y3 y hy).up s4, by omega, by omega, tk.l0, tk.l1, ok.nm _ tk.tl, ok.nm _ tk.hd, fun H5 s5 => k _ s5⟩
    · rw [List.filterMap_eq_map'] at e4
      have sm4 := ((s1.trans s2).trans s3).trans s4
      have e24 := (s3.trans s4) _ _ e2
      walk_at "w"
      refine ext_l e24 e4 (by rw [List.length_map, List.length_map]; omega) fun H5 o5 e5 => ?_
      have sm5 := o5.same sm4 n2'
      have hw5 := hw.up sm5
      walk_at "w"
      refine ⟨p, lc, ld, w, rfl, hw5, ?_⟩
      walk_at "w"
      have g0 := ok.ok.g0
      have g1 := ok.gv
      refine ⟨w.given, rfl, g0, by omega, ?_⟩
      walk_at "w"
      have a1 := num_len g0 (by omega : w.given ≤ 10 ^ 60)
      have a2 : ("given " : Str).length = 6 := by decide +kernel
      refine o_addS (by omega) ?_
      walk_at "w"
      refine new_l (by simp) fun l6 H6 n6 s6 e6 => ?_
      refine cat_l (s6 _ _ e5) e6 (by rw [List.length_append, List.length_map, List.length_map]; simp; omega) fun l7 H7 n7 s7 e7 => ?_
      walk_at "w"
      refine q l7 H7 ((sm5.trans s6).free n7) ((sm5.trans s6).trans s7) ?_
      rw [e7]
      unfold linesF
      rw [List.map_append, List.map_append, List.map_map, List.map_map, ← y1, List.map_map]
      rfl
theorem st_need_line (a0 : V) : L2.start n_need_line [a0] = [some a0] := rfl
theorem pure_need_line {w : World} {K : PySem.W.Frag} {mg : Str → Option Value} (T : Tx w K mg) (vs : List V) (H : Hp) (Q : VK) (E : XK) (h : sp_need_line K vs H Q E) : t_need_line K { nx := fun _ H' => Q .non H', rt := Q } (start n_need_line vs) H := by
  show t_need_line K (D0 Q) (start n_need_line vs) H
  unfold t_need_line
  obtain ⟨rfl, q⟩ := h
  walk_at "w"
  exact q
theorem st_put_tie_line (a0 a1 : V) : L2.start n_put_tie_line [a0, a1] = [some a0, some a1, none, none] := rfl
theorem pure_put_tie_line {w : World} {K : PySem.W.Frag} {mg : Str → Option Value} (T : Tx w K mg) (vs : List V) (H : Hp) (Q : VK) (E : XK) (h : sp_put_tie_line K vs H Q E) : t_put_tie_line K { nx := fun _ H' => Q .non H', rt := Q } (start n_put_tie_line vs) H := by
  show t_put_tie_line K (D0 Q) (start n_put_tie_line vs) H
  unfold t_put_tie_line
  obtain ⟨p, lc, ld, l, w, t, rfl, hw, ok, lk, el, q⟩ := h
  obtain ⟨k1, k2, k3, k4, k5, k6, k7, k8, k9, k10⟩ := lk
  rw [st_put_tie_line]
  have g0 := ok.g0
  walk_at "w"
  refine ⟨rfl, ?_⟩
  walk_at "w"
  refine ix_l (n := 1) el rfl ?_
  walk_at "w"
  refine ⟨t.num, rfl, by omega, k7, fun H1 s1 => ?_⟩
  walk_at "w"
  refine ix_l (n := 4) (s1 _ _ el) rfl ?_
  walk_at "w"
  refine ⟨t.load, rfl, k8, k9, fun H2 s2 => ?_⟩
  have hw2 := hw.up (s1.trans s2)
  have el2 := (s1.trans s2) _ _ el
  walk_at "w"
  refine ⟨p, lc, ld, w, rfl, hw2, ?_⟩
  walk_at "w"
  refine ⟨t.num, w.given + 1, 10 ^ 60, rfl, ?_⟩
  walk_at "w"
  refine ⟨by rw [decide_eq_true (by omega : w.given + 1 ≤ t.num), decide_eq_true k7]; rfl, ?_⟩
  walk_at "w"
  refine ix_l (n := 2) el2 rfl ?_
  walk_at "w"
  refine ix_l (n := 3) el2 rfl ?_
  walk_at "w"
  refine ix_l (n := 0) el2 rfl ?_
  walk_at "w"
  refine ⟨p, lc, ld, w, t, by rw [kind_dec]; rfl, hw2, fun u hu => ?_, k3, k4, k5, k8, k9, k10, fun H3 k3 hw3 => ?_⟩
  · have := (ok.tie u hu).high
    omega
  · walk_at "w"
    exact q _ ((Keep.of (s1.trans s2)).trans k3) hw3
theorem lnW_len (w : Wr) (l : Ln) (h : LnOk w l) (g : 0 ≤ w.given) : ∀ x ∈ lnW' l, 1 ≤ x.length ∧ x.length ≤ 100 ∧ 32 ∉ x.cps.toList := by
  have c1 : ∀ s : Str, (s = "point" ∨ s = "given" ∨ s = "way" ∨ s = "tie") → 1 ≤ s.length ∧ s.length ≤ 100 ∧ 32 ∉ s.cps.toList := by
    rintro s (rfl | rfl | rfl | rfl) <;> decide +kernel
  have c2 : ∀ s : Str, okName s → 1 ≤ s.length ∧ s.length ≤ 100 ∧ 32 ∉ s.cps.toList := fun s o => ⟨o.pos, by have := o.len; omega, o.free⟩
  have c3 : ∀ n : Int, 0 ≤ n → n ≤ 10 ^ 60 → 1 ≤ (numT n).length ∧ (numT n).length ≤ 100 ∧ 32 ∉ (numT n).cps.toList := fun n h0 h1 => ⟨(num_len h0 h1).1, by have := (num_len h0 h1).2; omega, num_free h0⟩
  intro x hx
  cases l with
  | pt n =>
    obtain ⟨h1, h2, h3, h4⟩ := h
    simp only [lnW', List.mem_cons, List.not_mem_nil, or_false] at hx
    rcases hx with rfl | rfl
    · exact c1 _ (.inl rfl)
    · exact c2 _ h2
  | ti t =>
    obtain ⟨k1, k2, k3, k4, k5, k6, k7, k8, k9, k10⟩ := h
    simp only [lnW', List.mem_cons, List.not_mem_nil, or_false] at hx
    rcases hx with rfl | rfl | rfl | rfl | rfl
    · cases t.ow
      · exact c1 _ (by simp)
      · exact c1 _ (by simp)
    · exact c3 _ (by omega) k7
    · exact c2 _ k1
    · exact c2 _ k2
    · exact c3 _ k8 k9
  | gv n =>
    obtain ⟨h1, h2⟩ := h
    simp only [lnW', List.mem_cons, List.not_mem_nil, or_false] at hx
    rcases hx with rfl | rfl
    · exact c1 _ (by simp)
    · exact c3 _ (by omega) h2
theorem st_put_line (a0 a1 : V) : L2.start n_put_line [a0, a1] = [some a0, some a1, none] := rfl
theorem pure_put_line {w : World} {K : PySem.W.Frag} {mg : Str → Option Value} (T : Tx w K mg) (vs : List V) (H : Hp) (Q : VK) (E : XK) (h : sp_put_line K vs H Q E) : t_put_line K { nx := fun _ H' => Q .non H', rt := Q } (start n_put_line vs) H := by
  show t_put_line K (D0 Q) (start n_put_line vs) H
  unfold t_put_line
  obtain ⟨p, lc, ld, w, l, rfl, hw, ok, lk, q⟩ := h
  have g0 := ok.g0
  have ll := lnW_len w l lk g0
  rw [lnT_join l]
  rw [st_put_line]
  have hne : lnW' l ≠ [] := by cases l <;> exact fun e => nomatch e
  have hl10 : (lnW' l).length ≤ 10 := by cases l <;> simp [lnW']
  walk_at "w"
  refine ⟨lnW' l, rfl, hne, hl10, ll, fun a H1 na s1 ea => ?_⟩
  have hw1 := hw.up s1
  walk_at "w"
  refine ⟨rfl, ?_⟩
  cases l with
  | ti t =>
    have e2 : H1 a = some (.lst [.str (if t.ow then "way" else "tie"), .str (numT t.num), .str t.tl, .str t.hd, .str (numT t.load)]) := ea
    walk_at "w"
    refine ix_l (n := 0) e2 rfl ?_
    walk_at "w"
    refine new_l (by simp) fun b H2 nb s2 eb => ?_
    have hw2 := hw1.up s2
    refine in_ends eb ?_
    walk_at "w"
    refine if_dT (by cases t.ow <;> simp) ?_
    walk_at "w"
    refine ⟨p, lc, ld, a, w, t, rfl, hw2, ok, lk, s2 _ _ e2, fun H3 k3 hw3 => ?_⟩
    walk_at "w"
    exact q _ (((Keep.of s1).trans (Keep.of s2)).trans (k3.mono fun c hc => by
      rcases List.mem_cons.mp hc with rfl | hc
      · simp
      · rw [List.mem_singleton.mp hc]; simp)) hw3
  | pt n =>
    obtain ⟨h1, h2, h3, h4⟩ := lk
    have e2 : H1 a = some (.lst [.str "point", .str n]) := ea
    walk_at "w"
    refine ix_l (n := 0) e2 rfl ?_
    walk_at "w"
    refine new_l (by simp) fun b H2 nb s2 eb => ?_
    have hw2 := hw1.up s2
    have e22 := s2 _ _ e2
    refine in_ends eb ?_
    walk_at "w"
    refine if_dF (by decide +kernel) ?_
    walk_at "w"
    refine ⟨rfl, ?_⟩
    walk_at "w"
    refine ix_l (n := 0) e22 rfl ?_
    walk_at "w"
    refine if_dT rfl ?_
    walk_at "w"
    refine ⟨p, lc, ld, w, rfl, hw2, by rw [h1]; simp, by rw [h1]; exact .nil, fun c H3 nc s3 ⟨ys, y1, y2, y3⟩ => ?_⟩
    rw [h1] at y1
    have y0 := List.map_eq_nil_iff.mp y1
    subst y0
    walk_at "w"
    refine new_l (by simp) fun d H4 nd s4 ed => ?_
    refine eqD_nil (s4 _ _ y2) ed ?_
    walk_at "w"
    refine ⟨rfl, ?_⟩
    have e24 := (s3.trans s4) _ _ e22
    have hw4 := hw2.up (s3.trans s4)
    walk_at "w"
    refine ix_l (n := 1) e24 rfl ?_
    walk_at "w"
    refine ⟨p, lc, ld, w, n, rfl, hw4, h2, h3, h4, fun H5 k5 hw5 => ?_⟩
    walk_at "w"
    exact q _ ((Keep.of ((s1.trans s2).trans (s3.trans s4))).trans (k5.mono fun c hc => by rw [List.mem_singleton.mp hc]; simp)) hw5
  | gv n =>
    obtain ⟨h1, h2⟩ := lk
    have e2 : H1 a = some (.lst [.str "given", .str (numT n)]) := ea
    walk_at "w"
    refine ix_l (n := 0) e2 rfl ?_
    walk_at "w"
    refine new_l (by simp) fun b H2 nb s2 eb => ?_
    have hw2 := hw1.up s2
    have e22 := s2 _ _ e2
    refine in_ends eb ?_
    walk_at "w"
    refine if_dF (by decide +kernel) ?_
    walk_at "w"
    refine ⟨rfl, ?_⟩
    walk_at "w"
    refine ix_l (n := 0) e22 rfl ?_
    walk_at "w"
    refine if_dF (by decide +kernel) ?_
    walk_at "w"
    refine ix_l (n := 0) e22 rfl ?_
    walk_at "w"
    refine if_dT rfl ?_
    walk_at "w"
    refine ix_l (n := 1) e22 rfl ?_
    walk_at "w"
    refine ⟨n, rfl, by omega, h2, fun H3 s3 => ?_⟩
    have hw3 := hw2.up s3
    walk_at "w"
    refine ⟨p, lc, ld, w, rfl, hw3, ?_⟩
    walk_at "w"
    refine ⟨n, w.given, 10 ^ 60, rfl, ?_⟩
    walk_at "w"
    refine ⟨by rw [decide_eq_true h1, decide_eq_true h2]; rfl, ?_⟩
    walk_at "w"
    refine ix_l (n := 1) (s3 _ _ e22) rfl ?_
    walk_at "w"
    refine ⟨n, rfl, by omega, h2, fun H4 s4 => ?_⟩
    have hw4 := hw3.up s4
    walk_at "w"
    refine ⟨p, lc, ld, w, n, rfl, hw4, fun H5 k5 hw5 => ?_⟩
    walk_at "w"
    exact q _ ((Keep.of ((s1.trans s2).trans (s3.trans s4))).trans (k5.mono fun c hc => by rw [List.mem_singleton.mp hc]; simp)) hw5
section
variable {K : PySem.W.Frag} {H H' H0 : Hp} {Q : VK} {σ : L2.St} {v x y z : V} {g : TG} {t : TT} {te : TE} {D : Ends} {s1 : TS} {β : Type}
/-- for over enumerate(list) -/
theorem f_enum {p : Addr} (ys : List β) (enc : β → V) (P : List β → L2.St → Hp → Prop) (hx : SqL K H p (ys.map enc)) (h0 : P [] σ H)
    (keep : ∀ done rest σ' H', ys = done ++ rest → P done σ' H' → SqL K H' p (ys.map enc))
    (turn : ∀ done y rest σ' H' T H2, ys = done ++ y :: rest → P done σ' H' → H' T = none → Same H' H2 → H2 T = some (.tup [.int (done.length : Nat), enc y]) → g (.ref T) σ' H2 fun σ2 H3 => s1 (dFor (P (done ++ [y])) D) σ2 H3)
    (fin : ∀ σ' H', P ys σ' H' → D.nx σ' H') : ItE K [.ref p] H fun J H1 => ForW J g s1 D σ H1 :=
  ⟨p, _, rfl, hx, forG ys.length (fun i σ' H' => P (ys.take i) σ' H') h0 (fun i σ' H' hi q => ⟨_, _, keep (ys.take i) (ys.drop i) σ' H' (List.take_append_drop _ _).symm q, by rw [List.getElem?_map, List.getElem?_eq_getElem hi]; rfl⟩)
    (fun σ' H' q => ⟨_, keep _ (ys.drop ys.length) σ' H' (List.take_append_drop _ _).symm q, by rw [List.length_map]; exact Nat.le_refl _⟩) (fun i σ' H' hi q x H2 yl => by
      obtain ⟨T, w, rfl, nT, rfl, hw⟩ := yl
      have e1 : ys[i]? = some ys[i] := List.getElem?_eq_getElem hi
      have e2 := hw _ (keep (ys.take i) (ys.drop i) σ' H' (List.take_append_drop _ _).symm q)
      rw [List.getElem?_map, e1] at e2
      cases e2
      have r := turn (ys.take i) ys[i] (ys.drop (i + 1)) σ' H' T _ (split_at e1) q nT (same_new nT) (by rw [List.length_take, Nat.min_eq_left (Nat.le_of_lt hi)]; exact upd_same)
      rw [← take_snoc e1] at r
      exact r) fun σ' H' q => fin σ' H' (by rw [List.take_length] at q; exact q)⟩
/-- a comprehension over enumerate(list), some kept -/
theorem l_enum {p : Addr} {vs : List Nat} (ys : List β) (enc : β → V) (P : List β → β → Bool) (hx : SqL K H p (ys.map enc)) (hn : ys.length ≤ 100000)
    (turn : ∀ done y rest, ys = done ++ y :: rest → ∀ H' T H2, Same H H' → H' T = none → Same H' H2 → H2 T = some (.tup [.int (done.length : Nat), enc y]) → ∀ N : Option V → Hp → Prop, (∀ H3, Same H2 H3 → P done y = true → N (some (enc y)) H3) → (∀ H3, Same H2 H3 → P done y = false → N none H3) → Turn g t te vs σ (.ref T) H2 N)
    (fin : ∀ (F : Nat → List β) a H', H a = none → Same H H' → F 0 = [] → (∀ i y, ys[i]? = some y → F (i + 1) = if P (ys.take i) y = true then F i ++ [y] else F i) → H' a = some (.lst ((F ys.length).map enc)) → Q (.ref a) H') : ItE K [.ref p] H fun J H1 => LcK J g t te vs σ H1 Q := by
  let F : Nat → List β := fun n => Nat.rec [] (fun i acc => match ys[i]? with
    | some y => if P (ys.take i) y = true then acc ++ [y] else acc
    | none => acc) n
  have hF : ∀ i y, ys[i]? = some y → F (i + 1) = if P (ys.take i) y = true then F i ++ [y] else F i := by
    intro i y e
    show (match ys[i]? with
      | some y => if P (ys.take i) y = true then F i ++ [y] else F i
      | none => F i) = _
    rw [e]
  refine ⟨p, _, rfl, hx, fun a ha => lcG ys.length hn ha (fun i acc _ => acc = (F i).map enc) rfl (fun _ _ _ _ _ h => h) (fun i H' hi s => ⟨_, _, s.seq hx, by rw [List.getElem?_map, List.getElem?_eq_getElem hi]; rfl⟩) (fun H' s => ⟨_, s.seq hx, by rw [List.length_map]; exact Nat.le_refl _⟩) (fun i acc H' hi s q e v H2 yl N kN => ?_) fun acc H' s e q => ?_⟩
  · obtain ⟨T, w, rfl, nT, rfl, hw⟩ := yl
    have e1 : ys[i]? = some ys[i] := List.getElem?_eq_getElem hi
    have e2 := hw _ (s.seq hx)
    rw [List.getElem?_map, e1] at e2
    cases e2
    refine turn (ys.take i) ys[i] (ys.drop (i + 1)) (split_at e1) H' T _ s nT (same_new nT) (by rw [List.length_take, Nat.min_eq_left (Nat.le_of_lt hi)]; exact upd_same) N (fun H3 s3 c => kN _ H3 ((same_new nT).trans s3) ?_) fun H3 s3 c => kN _ H3 ((same_new nT).trans s3) ?_
    · rw [q, hF i _ e1, if_pos c, List.map_append]
      rfl
    · rw [q, hF i _ e1, if_neg (by rw [c]; exact Bool.false_ne_true)]
      simp
  · subst q
    exact fin F a H' ha s rfl hF e
end
/-! ### the lines of a web, put one by one -/
def lastG (g : Int) (l : List Tr) : Int := l.foldl (fun _ t => t.num) g
theorem fold_pt : ∀ (l : List Str) (w : Wr), (l.map Ln.pt).foldl lnW w = { w with names := w.names ++ l }
  | [], w => by simp
  | x :: l, w => by
    rw [List.map_cons, List.foldl_cons, fold_pt l]
    simp [lnW, Wb.putPoint]
theorem fold_ti : ∀ (l : List Tr) (w : Wr), (l.map Ln.ti).foldl lnW w = { w with ties := w.ties ++ l, given := lastG w.given l }
  | [], w => by simp [lastG]
  | x :: l, w => by
    rw [List.map_cons, List.foldl_cons, fold_ti l]
    simp [lnW, lastG]
theorem lastG_snoc (g : Int) (l : List Tr) (t : Tr) : lastG g (l ++ [t]) = t.num := by simp [lastG, List.foldl_append]
theorem lastG_le {l : List Tr} (h : l.Pairwise fun a b => a.num < b.num) (g : Int) : ∀ t ∈ l, t.num ≤ lastG g l := by
  refine snoc_ind (P := fun l => l.Pairwise (fun a b => a.num < b.num) → ∀ t ∈ l, t.num ≤ lastG g l) (fun _ t ht => nomatch ht) ?_ l h
  intro l x ih h t ht
  rw [lastG_snoc]
  obtain ⟨h1, h2, h3⟩ := List.pairwise_append.mp h
  rcases List.mem_append.mp ht with ht | ht
  · exact Int.le_of_lt (h3 t ht x (by simp))
  · rw [List.mem_singleton.mp ht]
    exact Int.le_refl _
theorem lastG_in {l : List Tr} {g : Int} : lastG g l = g ∨ ∃ t ∈ l, lastG g l = t.num := by
  refine snoc_ind (P := fun l => lastG g l = g ∨ ∃ t ∈ l, lastG g l = t.num) (.inl rfl) ?_ l
  intro l x _
  exact .inr ⟨x, by simp, lastG_snoc _ _ _⟩
def w0 : Wr := ⟨[], [], 0⟩
theorem fold_all (w : Wr) : (linesF w).foldl lnW w0 = w := by
  unfold linesF
  rw [List.foldl_append, List.foldl_append, fold_pt, fold_ti]
  rfl
theorem sub_ok {w : Wr} (ok : WOk w) {ts : List Tr} (h : ts <+: w.ties) : WOk { w with ties := ts, given := lastG 0 ts } := by
  have srt := ok.srt.sublist h.sublist
  have g0 : 0 ≤ lastG 0 ts := by
    rcases lastG_in (l := ts) (g := 0) with e | ⟨t, ht, e⟩
    · rw [e]; exact Int.le_refl _
    · rw [e]; have := (ok.tie t (h.subset ht)).low; omega
  exact ⟨ok.nd, ok.len, srt, Nat.le_trans h.length_le ok.tlen, fun t ht => let k := ok.tie t (h.subset ht); ⟨k.low, lastG_le srt 0 t ht, k.ne, k.tl, k.hd, k.l0, k.l1⟩, g0⟩
/-- where a line stands, it can be put -/
theorem line_ok {w : Wr} (ok : TxtOk w) {done rest : List Ln} {y : Ln} (h : linesF w = done ++ y :: rest) : WOk (done.foldl lnW w0) ∧ LnOk (done.foldl lnW w0) y ∧ (done.any lnLast) = false := by
  have apt : ∀ l : List Str, (l.map Ln.pt).any lnLast = false := fun l => by
    rw [List.any_map, List.any_eq_false]; intro x _; exact Bool.false_ne_true
  have ati : ∀ l : List Tr, (l.map Ln.ti).any lnLast = false := fun l => by
    rw [List.any_map, List.any_eq_false]; intro x _; exact Bool.false_ne_true
  unfold linesF at h
  rw [List.append_assoc] at h
  rcases List.append_eq_append_iff.mp h with ⟨as, h1, h2⟩ | ⟨bs, h1, h2⟩
  · -- the points are done
    have key : ∀ ts ts' : List Tr, w.ties = ts ++ ts' → WOk { w with ties := ts, given := lastG 0 ts } := fun ts ts' e => sub_ok ok.ok ⟨ts', e.symm⟩
    rcases List.append_eq_append_iff.mp h2 with ⟨cs, h3, h4⟩ | ⟨cs, h3, h4⟩
    · -- all ties are done
      have hc : cs = [] ∧ y = Ln.gv w.given := by
        cases cs with
        | nil => injection h4 with e _; exact ⟨rfl, e.symm⟩
        | cons c cs =>
          injection h4 with _ h5
          have h5 : [] = cs ++ (y :: rest) := h5
          simp at h5
      obtain ⟨rfl, rfl⟩ := hc
      rw [List.append_nil] at h3
      subst h3
      subst h1
      rw [List.foldl_append, fold_pt, fold_ti, List.any_append, apt, ati]
      refine ⟨key w.ties [] (by simp), ⟨?_, ?_⟩, rfl⟩
      · show lastG 0 w.ties ≤ w.given
        rcases lastG_in (l := w.ties) (g := 0) with e | ⟨t, ht, e⟩
        · rw [e]; exact ok.ok.g0
        · rw [e]; exact (ok.ok.tie t ht).high
      · have := ok.gv
        omega
    · cases cs with
      | nil =>
        -- the line is the last one
        rw [List.nil_append] at h4
        rw [List.append_nil] at h3
        injection h4 with e1 e2
        subst e1
        subst h3
        subst h1
        rw [List.foldl_append, fold_pt, fold_ti, List.any_append, apt, ati]
        refine ⟨key w.ties [] (by simp), ⟨?_, ?_⟩, rfl⟩
        · show lastG 0 w.ties ≤ w.given
          rcases lastG_in (l := w.ties) (g := 0) with e | ⟨t, ht, e⟩
          · rw [e]; exact ok.ok.g0
          · rw [e]; exact (ok.ok.tie t ht).high
        · have := ok.gv
          omega
      | cons c cs =>
        injection h4 with e1 e2
        subst e1
        obtain ⟨ts, us, e3, e4, e5⟩ := List.map_eq_append_iff.mp h3
        obtain ⟨t, us', e6, e7, e8⟩ := List.map_eq_cons_iff.mp e5
        subst e7
        subst e6
        subst e4
        subst h1
        rw [List.foldl_append, fold_pt, fold_ti, List.any_append, apt, ati]
        have ht : t ∈ w.ties := by rw [e3]; simp
        have tk := ok.ok.tie t ht
        refine ⟨key ts _ e3, ⟨ok.nm _ tk.tl, ok.nm _ tk.hd, tk.tl, tk.hd, tk.ne, ?_, ?_, tk.l0, tk.l1, ?_⟩, rfl⟩
        · show lastG 0 ts < t.num
          rcases lastG_in (l := ts) (g := 0) with e | ⟨u, hu, e⟩
          · rw [e]; have := tk.low; omega
          · rw [e]
            have := ok.ok.srt
            rw [e3] at this
            exact (List.pairwise_append.mp this).2.2 u hu t List.mem_cons_self
        · have := tk.high
          have := ok.gv
          omega
        · show ([] ++ ts).length < 48
          have := ok.ok.tlen
          rw [e3, List.length_append, List.length_cons] at this
          rw [List.nil_append]
          omega
  · cases bs with
    | nil =>
      rw [List.append_nil] at h1
      rw [List.nil_append] at h2
      subst h1
      rw [fold_pt, apt]
      have wk0 : WOk { w with ties := [], given := 0 } := ⟨ok.ok.nd, ok.ok.len, .nil, Nat.zero_le _, fun t ht => (nomatch ht), Int.le_refl _⟩
      refine ⟨wk0, ?_, rfl⟩
      cases ht : w.ties with
      | nil =>
        rw [ht] at h2
        injection h2 with e1 _
        subst e1
        exact ⟨ok.ok.g0, by have := ok.gv; omega⟩
      | cons t ts =>
        rw [ht] at h2
        injection h2 with e1 _
        subst e1
        have htm : t ∈ w.ties := by rw [ht]; simp
        have tk := ok.ok.tie t htm
        exact ⟨ok.nm _ tk.tl, ok.nm _ tk.hd, tk.tl, tk.hd, tk.ne, by show (0 : Int) < t.num; have := tk.low; omega, by have := tk.high; have := ok.gv; omega, tk.l0, tk.l1, by show 0 < 48; omega⟩
    | cons c cs =>
      injection h2 with e1 e2
      subst e1
      obtain ⟨xs, us, e3, e4, e5⟩ := List.map_eq_append_iff.mp h1
      obtain ⟨n, us', e6, e7, e8⟩ := List.map_eq_cons_iff.mp e5
      subst e7
      subst e6
      subst e4
      rw [fold_pt, apt]
      have nd := ok.ok.nd
      have ln := ok.ok.len
      rw [e3] at nd ln
      rw [List.length_append, List.length_cons] at ln
      have hn : n ∈ w.names := by rw [e3]; simp
      refine ⟨⟨(List.nodup_append.mp nd).1, by show ([] ++ xs).length ≤ 16; rw [List.nil_append]; omega, .nil, Nat.zero_le _, fun t ht => (nomatch ht), Int.le_refl _⟩, ⟨rfl, ok.nm n hn, ?_, ?_⟩, rfl⟩
      · show n ∉ [] ++ xs
        rw [List.nil_append]
        exact fun m => (List.nodup_append.mp nd).2.2 n m n List.mem_cons_self rfl
      · show ([] ++ xs).length < 16
        rw [List.nil_append]
        omega
theorem st_web_of (a0 : V) : L2.start n_web_of [a0] = [some a0, none, none, none, none, none] := rfl
theorem pure_web_of {w : World} {K : PySem.W.Frag} {mg : Str → Option Value} (T : Tx w K mg) (vs : List V) (H : Hp) (Q : VK) (E : XK) (h : sp_web_of K vs H Q E) : t_web_of K { nx := fun _ H' => Q .non H', rt := Q } (start n_web_of vs) H := by
  show t_web_of K (D0 Q) (start n_web_of vs) H
  unfold t_web_of
  obtain ⟨l, w, rfl, el, ok, q⟩ := h
  rw [st_web_of]
  walk_at "w"
  intro p dx np ndx npd
  have sm1 : Same H (upd (upd H dx (.own p)) p (.ins (He.ga K "Web") dx [])) := same_own (same_new ndx) np
  refine ⟨p, dx, rfl, upd_same, fun lc ld H1 nlc nld k1 hw1 => ⟨rfl, ?_⟩⟩
  have sm : Same H H1 := fun c o h => k1 c o (by rw [List.mem_singleton]; exact ne_of_none h np) (sm1 _ _ h)
  have n1 : H lc = none := sm1.free nlc
  have n2 : H ld = none := sm1.free nld
  clear sm1 k1
  walk_at "w"
  have el' : (linesF w).map (fun l => V.str (lnT l)) = (linesF w).map fun l => V.str (lnT l) := rfl
  let st : Option V → Option V → Option V → Bool → L2.St := fun o3 o4 o5 b => [some (.ref l), some (.ref p), some (.bl b), o3, o4, o5]
  let P : List Ln → L2.St → Hp → Prop := fun done σ H' => (∃ o3 o4 o5, σ = st o3 o4 o5 (done.any lnLast)) ∧ Same H H' ∧ WebAt K H' p lc ld (done.foldl lnW w0)
  refine f_enum (linesF w) (fun l => V.str (lnT l)) P (.inl (.inl (sm _ _ el))) ⟨⟨none, none, none, rfl⟩, sm, hw1⟩ (fun _ _ _ H' _ h => .inl (.inl (h.2.1 _ _ el))) (fun done y rest σ H2 Tp H3 ey h nT s3 eT => ?_) (fun σ H2 h => ?_)
  · obtain ⟨⟨o3, o4, o5, rfl⟩, s2, hw2⟩ := h
    obtain ⟨ok2, lk, an⟩ := line_ok ok ey
    rw [an]
    have hw3 := hw2.up s3
    walk_at "w"
    refine ⟨p, lc, ld, _, y, rfl, hw3, ok2, lk, fun H4 k4 hw4 => ?_⟩
    walk_at "w"
    refine ⟨⟨_, _, _, by rw [List.any_append, an, List.any_cons, List.any_nil, Bool.or_false, Bool.false_or]; rfl⟩, fun c o h => k4 c o ?_ ((s2.trans s3) _ _ h), by rw [List.foldl_append]; exact hw4⟩
    have c1 : c ≠ p := ne_of_none h np
    have c2 : c ≠ lc := ne_of_none h n1
    have c3 : c ≠ ld := ne_of_none h n2
    simp [c1, c2, c3]
  · obtain ⟨⟨o3, o4, o5, rfl⟩, s2, hw2⟩ := h
    have an : (linesF w).any lnLast = true := by unfold linesF; rw [List.any_append]; simp [lnLast]
    rw [an]
    rw [fold_all] at hw2
    walk_at "w"
    exact q p lc ld H2 s2 hw2
section
variable {K : PySem.W.Frag} {H : Hp} {Q : VK} {v : V}
theorem o_powL {a b : Int} (h : 0 ≤ b) (h1 : b ≤ 1000000) (h2 : a.natAbs < 2 ^ 64) (q : Q (.int (a ^ b.toNat)) H) : oPow (.int a) (.int b) H Q := ⟨a, b, rfl, rfl, ⟨h, h1, h2⟩, q⟩
theorem o_shl {a b : Int} (h : 0 ≤ b) (h1 : b ≤ 1000000) (h2 : a.natAbs < 2 ^ 64) (q : Q (.int (a * 2 ^ b.toNat)) H) : oShl (.int a) (.int b) H Q := ⟨a, b, rfl, rfl, ⟨h, h1, h2⟩, q⟩
theorem o_mulR {m n : Int} (h : -(2 ^ 64) < n) (h2 : n < 2 ^ 64) (q : Q (.int (m * n)) H) : oMul (.int m) (.int n) H Q := ⟨m, n, rfl, rfl, .inr ⟨h, h2⟩, q⟩
theorem int1_b {b : Bool} (q : Q (.int (if b then 1 else 0)) H) : cInt1 [.bl b] H Q := .inr ⟨b, rfl, q⟩
/-- an index that is an integer -/
theorem ix_li {p : Addr} {xs : List V} {i : Int} (h : H p = some (.lst xs)) (h0 : 0 ≤ i) (h1 : i < xs.length) (q : ∀ v, xs[i.toNat]? = some v → Q v H) : rIxL K (.ref p) (.int i) H Q := by
  obtain ⟨n, rfl⟩ := Int.eq_ofNat_of_zero_le h0
  have hn : n < xs.length := by omega
  exact ix_l h (List.getElem?_eq_getElem hn) (q _ (by rw [Int.toNat_natCast]; exact List.getElem?_eq_getElem hn))
theorem ix_si {z : Str} {i : Int} (l : z.length ≤ 100000) (h0 : 0 ≤ i) (h1 : i < z.length) (q : ∀ c, z.cps.toList[i.toNat]? = some c → Q (.str ⟨#[c]⟩) H) : rIxS (.str z) (.int i) H Q := by
  obtain ⟨n, rfl⟩ := Int.eq_ofNat_of_zero_le h0
  have hn : n < z.cps.toList.length := by rw [Array.length_toList]; exact Int.ofNat_lt.mp h1
  exact ix_s l (List.getElem?_eq_getElem hn) (q _ (by rw [Int.toNat_natCast]; exact List.getElem?_eq_getElem hn))
end
theorem st_law_draw (a0 a1 a2 : V) : L2.start n_law_draw [a0, a1, a2] = [some a0, some a1, some a2, none, none, none] := rfl
theorem pure_law_draw {w : World} {K : PySem.W.Frag} {mg : Str → Option Value} (T : Tx w K mg) (vs : List V) (H : Hp) (Q : VK) (E : XK) (h : sp_law_draw K vs H Q E) : t_law_draw K { nx := fun _ H' => Q .non H', rt := Q } (start n_law_draw vs) H := by
  show t_law_draw K (D0 Q) (start n_law_draw vs) H
  unfold t_law_draw
  obtain ⟨c, k, j, rfl, k0, k1, j0, j1, q⟩ := h
  rw [st_law_draw]
  have a1 : -(2 ^ 64 : Int) < k + 3 := by omega
  have a2 : k + 3 < (2 ^ 64 : Int) := by omega
  have b1 : -(2 ^ 64 : Int) < j + 7 := by omega
  have b2 : j + 7 < (2 ^ 64 : Int) := by omega
  have j2 : -(2 ^ 64 : Int) < j := by omega
  have j3 : j < (2 ^ 64 : Int) := by omega
  walk_at "w"
  refine o_powL (by decide) (by decide) (by decide) ?_
  walk_at "w"
  refine int1_b ?_
  walk_at "w"
  refine o_mul j2 j3 ?_
  walk_at "w"
  obtain ⟨n, hn, hn2⟩ : ∃ n : Nat, j * (if decide ((10 : Int) ^ (18 : Int).toNat ≤ c) then 1 else 0) = (n : Int) ∧ n ≤ 1000 := by
    refine ⟨(j * (if decide ((10 : Int) ^ (18 : Int).toNat ≤ c) then 1 else 0)).toNat, ?_, ?_⟩
    · split <;> omega
    · split <;> omega
  let P : Nat → L2.St → Hp → Prop := fun i σ H' => H' = H ∧ ∃ l o, σ = [some (.int c), some (.int k), some (.int j), some (.int l), o, none]
  refine f_rng P hn (by omega) ⟨rfl, _, _, rfl⟩ (fun i σ H' hi ⟨e, l, o, eσ⟩ => ?_) (fun σ H' ⟨e, l, o, eσ⟩ => ?_)
  · subst e eσ
    walk_at "w"
    exact ⟨rfl, _, _, rfl⟩
  · subst e eσ
    have fin : tSeq (tAsg (tOp oAdd (tOp oMul (tOp oMul (tOp oAdd (tVar 1) (tC (.int 3))) (tOp oAdd (tVar 1) (tC (.int 3)))) (tC (.int 40692))) (tOp oMul (tOp oMul (tOp oAdd (tVar 2) (tC (.int 7))) (tOp oAdd (tVar 2) (tC (.int 7)))) (tC (.int 69621)))) (gName 5)) (tRet (tOp oDiv (tOp oMod (tOp oMul (tOp oMod (tOp oAdd (tOp oMul (tOp oMod (tVar 0) (tC (.int 2147483629))) (tC (.int 48271))) (tVar 5)) (tC (.int 2147483647))) (tC (.int 16807))) (tC (.int 2147483629))) (tC (.int 3)))) (D0 Q) [some (.int c), some (.int k), some (.int j), some (.int l), o, none] H' := by
      walk_at "w"
      refine o_mul a1 a2 ?_
      walk_at "w"
      refine o_mulR (by decide) (by decide) ?_
      walk_at "w"
      refine o_mul b1 b2 ?_
      walk_at "w"
      refine o_mulR (by decide) (by decide) ?_
      walk_at "w"
      refine o_mulR (by decide) (by decide) ?_
      walk_at "w"
      refine o_mulR (by decide) (by decide) ?_
      walk_at "w"
      refine q _ ?_ ?_
      · generalize (_ * 16807 : Int) = X
        omega
      · generalize (_ * 16807 : Int) = X
        omega
    walk_at "w"
    refine o_powL (by decide) (by decide) (by decide) ?_
    walk_at "w"
    refine if_d (fun c1 => ?_) (fun c1 => ?_)
    · walk_at "w"
      refine if_d (fun c2 => ?_) (fun c2 => ?_)
      · walk_at "w"
        exact q _ (by omega) (by omega)
      · walk_at "v"
        walk_at "v"
        exact fin
    · walk_at "v"
      walk_at "v"
      exact fin
theorem st_law_load (a0 a1 a2 : V) : L2.start n_law_load [a0, a1, a2] = [some a0, some a1, some a2, none, none] := rfl
theorem pure_law_load {w : World} {K : PySem.W.Frag} {mg : Str → Option Value} (T : Tx w K mg) (vs : List V) (H : Hp) (Q : VK) (E : XK) (h : sp_law_load K vs H Q E) : t_law_load K { nx := fun _ H' => Q .non H', rt := Q } (start n_law_load vs) H := by
  show t_law_load K (D0 Q) (start n_law_load vs) H
  unfold t_law_load
  obtain ⟨c, k, j, rfl, k0, k1, j0, j1, q⟩ := h
  rw [st_law_load]
  walk_at "w"
  refine ⟨c, k, j, rfl, k0, k1, j0, j1, fun n n0 n1 => ?_⟩
  walk_at "w"
  refine o_powL (by decide) (by decide) (by decide) ?_
  walk_at "w"
  refine o_powL (by decide) (by decide) (by decide) ?_
  walk_at "w"
  refine new_l (by simp) fun a H1 na s1 ea => ?_
  walk_at "w"
  refine ix_li ea (by omega) (by simp; omega) fun v hv => ?_
  have hm := List.mem_of_getElem? hv
  have e60 : (10 : Int) ^ (60 : Int).toNat = 10 ^ 60 := rfl
  rw [e60] at hm
  simp only [List.mem_cons, List.not_mem_nil, or_false] at hm
  rcases hm with rfl | rfl | rfl | rfl
  · exact q _ _ (by omega) (by omega) s1
  · exact q _ _ (by omega) (by omega) s1
  · exact q _ _ (by omega) (by omega) s1
  · exact q _ _ (by omega) (by omega) s1
theorem st_law_whole (a0 a1 : V) : L2.start n_law_whole [a0, a1] = [some a0, some a1] := rfl
theorem pure_law_whole {w : World} {K : PySem.W.Frag} {mg : Str → Option Value} (T : Tx w K mg) (vs : List V) (H : Hp) (Q : VK) (E : XK) (h : sp_law_whole K vs H Q E) : t_law_whole K { nx := fun _ H' => Q .non H', rt := Q } (start n_law_whole vs) H := by
  show t_law_whole K (D0 Q) (start n_law_whole vs) H
  unfold t_law_whole
  obtain ⟨i, rfl, q⟩ := h
  walk_at "w"
  rw [decide_eq_true rfl]
  exact q
section
variable {K : PySem.W.Frag} {H : Hp} {Q : VK} {σ : L2.St} {v : V} {g : TG} {t : TT} {te : TE}
/-- a comprehension over range(n) -/
theorem l_rng {n : Nat} {z : Int} {vs : List Nat} (f : Nat → V) (e : z = n) (hn : n ≤ 100000)
    (turn : ∀ i, i < n → ∀ H', Same H H' → ∀ N : Option V → Hp → Prop, (∀ H3, Same H' H3 → N (some (f i)) H3) → Turn g t te vs σ (.int (i : Nat)) H' N)
    (fin : ∀ d H', H d = none → Same H H' → H' d = some (.lst ((List.range n).map f)) → Q (.ref d) H') : ItR [.int z] H fun J H1 => LcK J g t te vs σ H1 Q := by
  subst e
  refine ⟨n, rfl, by omega, by omega, fun d hd => ?_⟩
  rw [Int.toNat_natCast]
  refine lcG n hn hd (fun i acc _ => acc = (List.range i).map f) rfl (fun _ _ _ _ _ h => h) (fun i H' hi _ => hi) (fun H' _ => Nat.le_refl _) (fun i acc H' hi s p e v H2 yl N k => ?_) fun acc H' s e p => ?_
  · obtain ⟨rfl, rfl⟩ := yl
    rw [Int.zero_add]
    exact turn i hi _ s N fun H3 s3 => k _ H3 s3 (by rw [p, List.range_succ, List.map_append]; rfl)
  · subst p
    exact fin d H' hd s e
theorem cutV_take (xs : List V) (i : Nat) : cutV xs none (some (i : Int)) = xs.take i := by
  unfold cutV
  rw [HT.sIx_none, HT.sIx_nat, List.drop_zero, Nat.sub_zero]
  by_cases c : i ≤ xs.length
  · rw [Nat.min_eq_left c]
  · rw [Nat.min_eq_right (by omega), List.take_of_length_le (Nat.le_refl _), List.take_of_length_le (by omega)]
def ltr (i : Int) : Str := ⟨#[letters.cps.toList[i.toNat]?.getD 0]⟩
theorem let_code : ∀ k, k < 26 → letters.cps.toList[k]?.getD 0 = 97 + k := by rw [lets]; decide
theorem let_len : letters.length = 26 := by decide +kernel
theorem ix_let {i : Int} (h0 : 0 ≤ i) (h1 : i < 26) (q : Q (.str (ltr i)) H) : rIxS (.str letters) (.int i) H Q := by
  refine ix_si (by rw [let_len]; decide) h0 (by rw [let_len]; exact h1) fun c hc => ?_
  unfold ltr at q
  rw [hc] at q
  exact q
end
def isL (x : Str) : Prop := ∀ c ∈ x.cps.toList, c ∈ letters.cps.toList
open TL in
theorem ltr_tl {i : Int} (h0 : 0 ≤ i) (h1 : i < 26) : tl (ltr i) = [97 + i.toNat] := by
  show [letters.cps.toList[i.toNat]?.getD 0] = _
  rw [let_code _ (by omega)]
open TL in
theorem ltr_ok {i : Int} (h0 : 0 ≤ i) (h1 : i < 26) : isL (ltr i) := by
  intro c hc
  have hc : c ∈ tl (ltr i) := hc
  rw [ltr_tl h0 h1, List.mem_singleton] at hc
  rw [hc, lets]
  have : i.toNat < 26 := by omega
  generalize i.toNat = k at this
  revert k
  decide
open TL in
theorem cut_pre {z : Str} {i : Int} (h : 0 ≤ i) : tl (cutS z none (some i)) = (tl z).take i.toNat := by
  obtain ⟨n, rfl⟩ := Int.eq_ofNat_of_zero_le h
  show (z.cps.toList.drop (HT.sIx z.length 0 none)).take (HT.sIx z.length z.length (some (n : Int)) - HT.sIx z.length 0 none) = _
  rw [HT.sIx_none, HT.sIx_nat, List.drop_zero, Nat.sub_zero, Int.toNat_natCast]
  have e := len_tl z
  by_cases c : n ≤ z.length
  · rw [Nat.min_eq_left c]
  · rw [Nat.min_eq_right (by omega), List.take_of_length_le (by rw [← e]; exact Nat.le_refl _), List.take_of_length_le (by omega)]
open TL in
theorem cut_suf {z : Str} {i : Int} (h : 0 ≤ i) : tl (cutS z (some i) none) = (tl z).drop i.toNat := by
  obtain ⟨n, rfl⟩ := Int.eq_ofNat_of_zero_le h
  show (z.cps.toList.drop (HT.sIx z.length 0 (some (n : Int)))).take (HT.sIx z.length z.length none - HT.sIx z.length 0 (some (n : Int))) = _
  rw [HT.sIx_none, HT.sIx_nat, Int.toNat_natCast]
  have e := len_tl z
  by_cases c : n ≤ z.length
  · rw [Nat.min_eq_left c, List.take_of_length_le (by rw [List.length_drop, ← e]; exact Nat.le_refl _)]
  · rw [Nat.min_eq_right (by omega), List.drop_of_length_le (by rw [← e]; exact Nat.le_refl _), List.drop_of_length_le (by omega), List.take_nil]
open TL in
theorem joinL_nil : ∀ ps : List (List Nat), joinL [] ps = ps.flatten
  | [] => rfl
  | [p] => by simp [joinL]
  | p :: q :: r => by
    show p ++ ([] ++ joinL [] (q :: r)) = _
    rw [joinL_nil (q :: r), List.nil_append]
    rfl
open TL in
theorem join0 (ps : List Str) : tl (Txt.join "" ps) = (ps.map tl).flatten := by
  rw [join_eq, tl_join, show tl "" = [] by decide +kernel, joinL_nil]
open TL in
/-- one name of the pool -/
theorem pool_nm {fr : Str} {a : Int} (h0 : 0 ≤ a) (fl : fr.length ≤ 7) (fo : isL fr) {i : Int} (i0 : 0 ≤ i) (i1 : i < 26) : okName (cutS fr none (some a) ++ ltr i ++ cutS fr (some a) none) ∧ tl (cutS fr none (some a) ++ ltr i ++ cutS fr (some a) none) = (tl fr).take a.toNat ++ [97 + i.toNat] ++ (tl fr).drop a.toNat := by
  have e : tl (cutS fr none (some a) ++ ltr i ++ cutS fr (some a) none) = (tl fr).take a.toNat ++ [97 + i.toNat] ++ (tl fr).drop a.toNat := by rw [tl_append, tl_append, cut_pre h0, cut_suf h0, ltr_tl i0 i1]
  refine ⟨⟨?_, ?_, ?_⟩, e⟩
  · rw [len_tl, e, List.length_append, List.length_append, List.length_singleton]
    omega
  · rw [len_tl] at fl
    rw [len_tl, e, List.length_append, List.length_append, List.length_singleton, List.length_take, List.length_drop]
    omega
  · intro c hc
    have hc : c ∈ tl (cutS fr none (some a) ++ ltr i ++ cutS fr (some a) none) := hc
    rw [e, List.mem_append, List.mem_append] at hc
    rcases hc with (hc | hc) | hc
    · exact fo c (List.mem_of_mem_take hc)
    · exact ltr_ok i0 i1 c (by show c ∈ tl (ltr i); rw [ltr_tl i0 i1]; exact hc)
    · exact fo c (List.mem_of_mem_drop hc)
/-- what is kept of a row where each comes once -/
theorem once {ys : List Str} {F : Nat → List Str} (h0 : F 0 = []) (h : ∀ i y, ys[i]? = some y → F (i + 1) = if (!decide (y ∈ ys.take i)) = true then F i ++ [y] else F i) : ∀ i, i ≤ ys.length → (F i).Nodup ∧ ∀ x, x ∈ F i ↔ x ∈ ys.take i
  | 0, _ => ⟨by rw [h0]; exact List.nodup_nil, fun x => by rw [h0]; simp⟩
  | i + 1, hi => by
    obtain ⟨nd, ih⟩ := once h0 h i (by omega)
    have e1 : ys[i]? = some ys[i] := List.getElem?_eq_getElem (by omega)
    rw [h i _ e1, take_snoc e1]
    by_cases c : ys[i] ∈ ys.take i
    · rw [decide_eq_true c, if_neg (by simp)]
      refine ⟨nd, fun x => ?_⟩
      rw [ih, List.mem_append, List.mem_singleton]
      exact ⟨.inl, fun h => h.elim id fun e => by rw [e]; exact c⟩
    · rw [decide_eq_false c, if_pos (by rfl)]
      refine ⟨nodup_snoc nd fun m => c ((ih _).mp m), fun x => ?_⟩
      rw [List.mem_append, List.mem_append, ih]
section
open TL
theorem st_law_pool (a0 : V) : L2.start n_law_pool [a0] = [some a0, none, none, none, none, none, none, none, none, none, none] := rfl
theorem pure_law_pool {w : World} {K : PySem.W.Frag} {mg : Str → Option Value} (T : Tx w K mg) (vs : List V) (H : Hp) (Q : VK) (E : XK) (h : sp_law_pool K vs H Q E) : t_law_pool K { nx := fun _ H' => Q .non H', rt := Q } (start n_law_pool vs) H := by
  show t_law_pool K (D0 Q) (start n_law_pool vs) H
  unfold t_law_pool
  obtain ⟨c, rfl, q⟩ := h
  rw [st_law_pool]
  walk_at "w"
  refine ⟨c, 70, 1, rfl, by decide, by decide, by decide, by decide, fun n n0 n1 => ?_⟩
  have k5 : -(2 ^ 64 : Int) < 3 + n % 5 := by omega
  have k6 : 3 + n % 5 < (2 ^ 64 : Int) := by omega
  walk_at "w"
  refine l_rng (n := 12) (fun i => .str (ltr ((n / 7 + (3 + n % 5) * (i : Int)) % 26))) rfl (by decide) (fun i hi H1 s1 N k => ?_) (fun a1 H1 n1' s1 e1 => ?_)
  · walk_at "w"
    refine o_mul k5 k6 ?_
    walk_at "w"
    exact ix_let (by omega) (by omega) (k _ (Same.refl _))
  let bs : List Str := (List.range 12).map fun i : Nat => ltr ((n / 7 + (3 + n % 5) * (i : Int)) % 26)
  have ebs : (List.range 12).map (fun i : Nat => V.str (ltr ((n / 7 + (3 + n % 5) * (i : Int)) % 26))) = bs.map V.str := by rw [List.map_map]; rfl
  rw [ebs] at e1
  have bl : ∀ x ∈ bs, x.length = 1 ∧ isL x := by
    intro x hx
    obtain ⟨i, _, rfl⟩ := List.mem_map.mp hx
    refine ⟨?_, ltr_ok (by omega) (by omega)⟩
    rw [len_tl, ltr_tl (by omega) (by omega)]
    rfl
  have bsl : bs.length = 12 := by rw [List.length_map, List.length_range]
  generalize hbase : Txt.join "" bs = base
  have btl : tl base = (bs.map tl).flatten := by rw [← hbase, join0]
  have blen : base.length = 12 := by
    rw [len_tl, btl, List.length_flatten, List.map_map]
    have : bs.map (List.length ∘ tl) = bs.map fun _ => 1 := List.map_congr_left fun x hx => by
      show (tl x).length = 1
      rw [← len_tl]
      exact (bl x hx).1
    rw [this, List.map_const', List.sum_replicate_nat, bsl]
  have bok : isL base := by
    intro c hc
    have hc : c ∈ tl base := hc
    rw [btl] at hc
    obtain ⟨l, hl, hcl⟩ := List.mem_flatten.mp hc
    obtain ⟨x, hx, rfl⟩ := List.mem_map.mp hl
    exact (bl x hx).2 c hcl
  refine join_s bs e1 ?_ ?_
  · have : bs.map (fun x => x.length) = bs.map fun _ => 1 := List.map_congr_left fun x hx => (bl x hx).1
    rw [this, List.map_const', List.sum_replicate_nat, bsl, show ("" : Str).length = 0 by decide +kernel]
    decide
  rw [hbase]
  walk_at "w"
  refine ⟨base, rfl, sz (by omega), ?_⟩
  have fok : isL (cutS base none (some (n % 8))) := by
    intro c hc
    have hc : c ∈ tl (cutS base none (some (n % 8))) := hc
    rw [cut_pre (by omega)] at hc
    exact bok c (List.mem_of_mem_take hc)
  have flen : (cutS base none (some (n % 8))).length ≤ 7 := by
    rw [len_tl, cut_pre (by omega), List.length_take]
    omega
  generalize cutS base none (some (n % 8)) = fr at fok flen
  walk_at "w"
  refine o_mod (by omega) ?_
  have at0 : 0 ≤ n / 200 % ((fr.length : Int) + 1) := Int.emod_nonneg _ (by omega)
  generalize n / 200 % ((fr.length : Int) + 1) = at_ at at0
  walk_at "w"
  refine l_rng (n := 22) (fun i => .str (ltr ((n / 2000 + 5 * (i : Int)) % 26))) rfl (by decide) (fun i hi H2 s2 N k => ?_) (fun a2 H2 n2' s2 e2 => ?_)
  · walk_at "w"
    refine o_mul (by decide) (by decide) ?_
    walk_at "w"
    exact ix_let (by omega) (by omega) (k _ (Same.refl _))
  let nm : Nat → Str := fun i => cutS fr none (some at_) ++ ltr ((n / 2000 + 5 * (i : Int)) % 26) ++ cutS fr (some at_) none
  have nmE : ∀ i : Nat, okName (nm i) ∧ tl (nm i) = (tl fr).take at_.toNat ++ [97 + ((n / 2000 + 5 * (i : Int)) % 26).toNat] ++ (tl fr).drop at_.toNat := fun i => pool_nm at0 flen fok (by omega) (by omega)
  walk_at "w"
  refine l_list (List.range 22) (fun i => .str (ltr ((n / 2000 + 5 * (i : Int)) % 26))) (fun i => some (.str (nm i))) (.inl (.inl e2)) (by simp) (fun i hi H3 s3 N k => ?_) (fun a3 H3 n3' s3 e3 => ?_)
  · have ce1 := cutS_length fr none (some at_)
    have ce2 := cutS_length fr (some at_) none
    have l1 : (ltr ((n / 2000 + 5 * (i : Int)) % 26)).length = 1 := by rw [len_tl, ltr_tl (by omega) (by omega)]; rfl
    have l2 : (cutS fr none (some at_) ++ ltr ((n / 2000 + 5 * (i : Int)) % 26)).length ≤ 8 := by
      rw [len_tl] at l1 ce1 ⊢
      rw [len_tl] at ce1
      rw [tl_append, List.length_append]
      have := len_tl fr
      omega
    walk_at "w"
    refine ⟨fr, rfl, sz (by omega), ?_⟩
    walk_at "w"
    refine o_addS (by omega) ?_
    walk_at "w"
    refine ⟨fr, rfl, sz (by omega), ?_⟩
    refine o_addS (by omega) ?_
    exact k _ (Same.refl _)
  rw [List.filterMap_eq_map'] at e3
  have e3' : H3 a3 = some (.lst (((List.range 22).map nm).map V.str)) := by rw [e3, List.map_map]; rfl
  have s3' := (s1.trans s2).trans s3
  clear e3 e2 e1
  -- the rest, for any row of names
  have nmI : ((List.range 22).map nm).Nodup := by
    rw [List.nodup_iff_pairwise_ne, List.pairwise_map]
    refine List.Pairwise.imp_of_mem ?_ (List.nodup_iff_pairwise_ne.mp (List.nodup_range (n := 22)))
    intro i j hi hj ne e
    have hi := List.mem_range.mp hi
    have hj := List.mem_range.mp hj
    have e := congrArg tl e
    rw [(nmE i).2, (nmE j).2] at e
    have e := List.append_cancel_left (List.append_cancel_right e)
    injection e with e _
    omega
  have fin : ∀ (ys : List Str) (a : Addr) (H' : Hp) (o8 o9 : Option V) (b6 : Addr), Same H H' → H' a = some (.lst (ys.map V.str)) → ys.length ≤ 100 → (∀ x ∈ ys, okName x) → (∀ x ∈ (List.range 22).map nm, x ∈ ys) →
      tRet (tSl (rSlL K) (tLc (iEnum K (tCons (tVar 7) tNil)) (gTup K 2 (gCons (gName 8) (gCons (gName 10) (gNil)))) (tTest (tOp (rIn K true) (tVar 10) (tSl (rSlL K) (tVar 7) tNoPart (tPart (tVar 8))))) (tVar 10) [8, 10]) tNoPart (tPart (tC (.int 22)))) (D0 Q)
        [some (.int c), some (.str letters), some (.int n), some (.str base), some (.str fr), some (.int at_), some (.ref b6), some (.ref a), o8, o9, none] H' := by
    intro ys a H' o8 o9 b6 s' ea yl yok yin
    walk_at "w"
    refine l_enum ys V.str (fun done y => !decide (y ∈ done)) (.inl (.inl ea)) (by omega) (fun done y rest ey H4 Tp H5 s4 nT s5 eT N k1 k0 => ?_) (fun F b H4 nb s4 F0 FS eb => ?_)
    · walk_at "w"
      refine sl_l (.inl (.inl ((s4.trans s5) _ _ ea))) fun l H6 nl s6 el => ?_
      have el' : H6 l = some (.lst (done.map V.str)) := by
        rw [el, cutV_take, ← List.map_take, ey, List.take_left]
      walk_at "w"
      refine in_l el' rfl (flat_str _) ?_
      rw [inV_str]
      walk_at "w"
      refine if_n (fun c1 => ?_) (fun c1 => ?_)
      · walk_at "w"
        exact k1 _ s6 (by rw [decide_eq_false c1]; rfl)
      · exact k0 _ s6 (by rw [decide_eq_true c1]; rfl)
    · obtain ⟨fnd, fin⟩ := once F0 FS ys.length (Nat.le_refl _)
      rw [List.take_of_length_le (Nat.le_refl _)] at fin
      have f22 : 22 ≤ (F ys.length).length := by
        have := length_le_of_subset nmI (m := F ys.length) fun x hx => (fin x).mpr (yin x hx)
        rw [List.length_map, List.length_range] at this
        exact this
      walk_at "w"
      refine sl_l (.inl (.inl eb)) fun l H6 nl s6 el => ?_
      walk_at "w"
      refine q l ((F ys.length).take 22) H6 ((s'.trans s4).free nl) ((s'.trans s4).trans s6) (by rw [el, show (22 : Int) = ((22 : Nat) : Int) from rfl, cutV_take, List.map_take]) ⟨?_, ?_, ?_⟩
      · rw [List.length_take]; omega
      · exact fnd.sublist (List.take_sublist _ _)
      · exact fun x hx => yok x ((fin x).mp (List.mem_of_mem_take hx))
  walk_at "w"
  refine if_d (fun c1 => ?_) (fun c1 => ?_)
  · walk_at "w"
    refine l_rng (n := 12) (fun i => .str (cutS base none (some ((i : Int) + 1)))) rfl (by decide) (fun i hi H4 s4 N k => ?_) (fun a4 H4 n4' s4 e4 => ?_)
    · walk_at "w"
      refine ⟨base, rfl, sz (by omega), ?_⟩
      exact k _ (Same.refl _)
    have e4' : H4 a4 = some (.lst (((List.range 12).map fun i : Nat => cutS base none (some ((i : Int) + 1))).map V.str)) := by rw [e4, List.map_map]; rfl
    walk_at "w"
    refine cat_l e4' (s4 _ _ e3') (by simp) fun a5 H5 n5 s5 e5 => ?_
    rw [← List.map_append] at e5
    walk_at "v"
    walk_at "v"
    refine fin _ a5 H5 _ _ a2 ((s3'.trans s4).trans s5) e5 (by simp) (fun x hx => ?_) (fun x hx => List.mem_append_right _ hx)
    rcases List.mem_append.mp hx with hx | hx
    · obtain ⟨i, hi, rfl⟩ := List.mem_map.mp hx
      have hi := List.mem_range.mp hi
      have et := cut_pre (z := base) (i := (i : Int) + 1) (by omega)
      have bl2 := len_tl base
      refine ⟨?_, ?_, fun c hc => ?_⟩
      · rw [len_tl, et, List.length_take]; omega
      · rw [len_tl, et, List.length_take]; omega
      · have hc : c ∈ tl (cutS base none (some ((i : Int) + 1))) := hc
        rw [et] at hc
        exact bok c (List.mem_of_mem_take hc)
    · obtain ⟨i, _, rfl⟩ := List.mem_map.mp hx
      exact (nmE i).1
  · walk_at "v"
    walk_at "v"
    refine fin _ a3 H3 _ _ a2 s3' e3' (by simp) (fun x hx => ?_) (fun x hx => hx)
    obtain ⟨i, _, rfl⟩ := List.mem_map.mp hx
    exact (nmE i).1
end
section
variable {K : PySem.W.Frag} {H H' H0 : Hp} {Q : VK} {p lc ld m ln lt : Addr} {w w' : Wr} {v : V} {S : List Addr}
theorem sNT : (Sum.inr ("names" : Str) : Key) ≠ Sum.inr ("ties" : Str) := fun e => absurd (Sum.inr.inj e) (by decide +kernel)
theorem sNG : (Sum.inr ("names" : Str) : Key) ≠ Sum.inr ("given" : Str) := fun e => absurd (Sum.inr.inj e) (by decide +kernel)
theorem sTG : (Sum.inr ("ties" : Str) : Key) ≠ Sum.inr ("given" : Str) := fun e => absurd (Sum.inr.inj e) (by decide +kernel)
theorem ModAt.g_names (h : ModAt H m ln lt w) (q : Q (.ref ln) H) : GetR (.ref m) (.str "names") H Q := get_s h.ob (valV_pos rfl) q
theorem ModAt.g_ties (h : ModAt H m ln lt w) (q : Q (.ref lt) H) : GetR (.ref m) (.str "ties") H Q := get_s h.ob (by rw [valV_neg sNT]; exact valV_pos rfl) q
theorem ModAt.g_given (h : ModAt H m ln lt w) (q : Q (.int w.given) H) : GetR (.ref m) (.str "given") H Q := get_s h.ob (by rw [valV_neg sNG, valV_neg sTG]; exact valV_pos rfl) q
theorem ModAt.m_ln (h : ModAt H m ln lt w) : m ≠ ln := ne_obj h.ob h.nm (by intro e; cases e)
theorem ModAt.lt_ln (h : ModAt H m ln lt w) : lt ≠ ln := let ⟨_, _, f, _⟩ := h.td; ne_obj f h.nm (by intro e; cases e)
theorem ModAt.keep (h : ModAt H m ln lt w) (k : Keep S H H') (n1 : m ∉ S) (n2 : ln ∉ S) (n3 : lt ∉ S) (n4 : ∀ a ∈ S, ∃ u, H a = some u ∧ ∀ xs, u ≠ .tup xs) : ModAt H' m ln lt w := by
  obtain ⟨ys, y1, y2, y3⟩ := h.td
  exact ⟨k _ _ n1 h.ob, k _ _ n2 h.nm, ys, y1, k _ _ n3 y2, fun y hy => k _ _ (fun hm => by
    obtain ⟨u, hu, nu⟩ := n4 _ hm
    rw [y3 y hy] at hu
    exact nu _ (Option.some.inj hu).symm) (y3 y hy)⟩
theorem WebAt.keep (h : WebAt K H p lc ld w) (k : Keep S H H') (n1 : p ∉ S) (n2 : lc ∉ S) (n3 : ld ∉ S) (n4 : ∀ a ∈ S, ∃ u, H a = some u ∧ ∀ C dx fs, u ≠ .ins C dx fs) : WebAt K H' p lc ld w := by
  obtain ⟨dx, hp⟩ := h.ob
  obtain ⟨ys, y1, y2, y3⟩ := h.td
  refine ⟨⟨dx, k _ _ n1 hp⟩, k _ _ n2 h.cr, ys, y1, k _ _ n3 y2, fun y hy => ?_⟩
  obtain ⟨d, hd⟩ := y3 y hy
  exact ⟨d, k _ _ (fun hm => by
    obtain ⟨u, hu, nu⟩ := n4 _ hm
    rw [hd] at hu
    exact nu _ _ _ (Option.some.inj hu).symm) hd⟩
theorem Only.keep {a : Addr} (o : Only a H H') : Keep [a] H H' := fun c u n h => by rw [o c (by simpa using n)]; exact h
/-- what the web's deeds leave, what the model's do -/
structure Ap (lc ld m ln lt : Addr) : Prop where
  n1 : lc ≠ ln
  n2 : ld ≠ m
  n3 : ld ≠ lt
  n4 : m ≠ lt
theorem Wd.ap (h : Wd K H p lc ld m ln lt w) : Ap lc ld m ln lt := ⟨h.n1, h.n2, h.n3, h.n4⟩
theorem Wd.of (a : Ap lc ld m ln lt) (hw : WebAt K H p lc ld w) (hm : ModAt H m ln lt w) : Wd K H p lc ld m ln lt w := ⟨hw, hm, a.n1, a.n2, a.n3, a.n4⟩
theorem mod_keep (h : Ap lc ld m ln lt) (hw : WebAt K H p lc ld w) (hm : ModAt H m ln lt w') (k : Keep [p, lc, ld] H H') : ModAt H' m ln lt w' := by
  obtain ⟨dx, hp⟩ := hw.ob
  obtain ⟨ys, y1, y2, y3⟩ := hw.td
  obtain ⟨zs, z1, z2, z3⟩ := hm.td
  refine hm.keep k ?_ ?_ ?_ fun a ha => ?_
  · have a1 : m ≠ p := ne_obj hm.ob hp (by intro e; cases e)
    have a2 : m ≠ lc := ne_obj hm.ob hw.cr (by intro e; cases e)
    simp [a1, a2, h.n2.symm]
  · have a1 : ln ≠ p := ne_obj hm.nm hp (by intro e; cases e)
    have a2 : ln ≠ ld := ne_obj hm.nm y2 (by intro e; cases e)
    simp [a1, a2, h.n1.symm]
  · have a1 : lt ≠ p := ne_obj z2 hp (by intro e; cases e)
    have a2 : lt ≠ lc := ne_obj z2 hw.cr (by intro e; cases e)
    simp [a1, a2, h.n3.symm]
  · simp only [List.mem_cons, List.not_mem_nil, or_false] at ha
    rcases ha with rfl | rfl | rfl
    · exact ⟨_, hp, fun xs e => by cases e⟩
    · exact ⟨_, hw.cr, fun xs e => by cases e⟩
    · exact ⟨_, y2, fun xs e => by cases e⟩
theorem web_keep (h : Ap lc ld m ln lt) (hw : WebAt K H p lc ld w) (hm : ModAt H m ln lt w') (k : Keep [m, ln, lt] H H') : WebAt K H' p lc ld w := by
  obtain ⟨dx, hp⟩ := hw.ob
  obtain ⟨ys, y1, y2, y3⟩ := hw.td
  obtain ⟨zs, z1, z2, z3⟩ := hm.td
  refine hw.keep k ?_ ?_ ?_ fun a ha => ?_
  · have a1 : p ≠ m := ne_obj hp hm.ob (by intro e; cases e)
    have a2 : p ≠ ln := ne_obj hp hm.nm (by intro e; cases e)
    have a3 : p ≠ lt := ne_obj hp z2 (by intro e; cases e)
    simp [a1, a2, a3]
  · have a1 : lc ≠ m := ne_obj hw.cr hm.ob (by intro e; cases e)
    have a3 : lc ≠ lt := ne_obj hw.cr z2 (by intro e; cases e)
    simp [a1, a3, h.n1]
  · have a2 : ld ≠ ln := ne_obj y2 hm.nm (by intro e; cases e)
    simp [a2, h.n2, h.n3]
  · simp only [List.mem_cons, List.not_mem_nil, or_false] at ha
    rcases ha with rfl | rfl | rfl
    · exact ⟨_, hm.ob, fun C dx fs e => by cases e⟩
    · exact ⟨_, hm.nm, fun C dx fs e => by cases e⟩
    · exact ⟨_, z2, fun C dx fs e => by cases e⟩
/-! the model changes -/
theorem ModAt.s_given (h : ModAt H m ln lt w) (n : Int) (ne : m ≠ lt) {q : Hp → Prop} (k : ∀ H', Only m H H' → ModAt H' m ln lt { w with given := n } → q H') : PutR (.int n) (.ref m) (.str "given") H q := by
  refine put_s h.ob (by simp) ?_
  have e : putK [((Sum.inr "names" : Key), V.ref ln), (Sum.inr "ties", .ref lt), (Sum.inr "given", .int w.given)] (Sum.inr "given") (.int n) = [((Sum.inr "names" : Key), V.ref ln), (Sum.inr "ties", .ref lt), (Sum.inr "given", .int n)] := by
    unfold putK
    rw [if_pos (by rw [List.any_eq_true]; exact ⟨(Sum.inr "given", .int w.given), by simp, decide_eq_true rfl⟩)]
    rw [List.map_cons, List.map_cons, List.map_cons, List.map_nil, if_neg sNG, if_neg sTG, if_pos rfl]
  rw [e]
  obtain ⟨zs, z1, z2, z3⟩ := h.td
  refine k _ Only.upd ⟨upd_same, by rw [L2.upd_ne h.m_ln.symm]; exact h.nm, zs, z1, by rw [L2.upd_ne ne.symm]; exact z2, fun z hz => by rw [L2.upd_ne (ne_obj (z3 z hz) h.ob (by intro e; cases e))]; exact z3 z hz⟩
theorem ModAt.s_names (h : ModAt H m ln lt w) (ns : List Str) : ModAt (upd H ln (.lst (ns.map V.str))) m ln lt { w with names := ns } := by
  obtain ⟨zs, z1, z2, z3⟩ := h.td
  exact ⟨by rw [L2.upd_ne h.m_ln]; exact h.ob, upd_same, zs, z1, by rw [L2.upd_ne h.lt_ln]; exact z2, fun z hz => by rw [L2.upd_ne (ne_obj (z3 z hz) h.nm (by intro e; cases e))]; exact z3 z hz⟩
theorem ModAt.s_ties (h : ModAt H m ln lt w) (ne : m ≠ lt) (ys : List AT) (hy : ∀ y ∈ ys, H y.1 = some (.tup (tupT y.2))) : ModAt (upd H lt (.dK (tiesD ys))) m ln lt { w with ties := ys.map (·.2) } := by
  obtain ⟨zs, z1, z2, z3⟩ := h.td
  exact ⟨by rw [L2.upd_ne ne]; exact h.ob, by rw [L2.upd_ne h.lt_ln.symm]; exact h.nm, ys, rfl, upd_same, fun y hm => by rw [L2.upd_ne (ne_obj (hy y hm) z2 (by intro e; cases e))]; exact hy y hm⟩
theorem ModAt.get_tie (h : ModAt H m ln lt w) (s : w.ties.Pairwise fun a b => a.num < b.num) {t : Tr} (ht : t ∈ w.ties) (q : ∀ a, H a = some (.tup (tupT t)) → Q (.ref a) H) : GetR (.ref lt) (.int t.num) H Q := by
  obtain ⟨ys, e1, e2, e3⟩ := h.td
  rw [← e1] at ht
  obtain ⟨y, hy, rfl⟩ := List.mem_map.mp ht
  exact get_i e2 (valV_at (k := fun y : AT => (Sum.inl y.2.num : Key)) (v := fun y => V.ref y.1) (keys_nd e1 s) hy) (q _ (e3 y hy))
theorem ModAt.in_ties (h : ModAt H m ln lt w) {n : Int} {neg : Bool} (q : Q (.bl (if neg then !decide (n ∈ w.ties.map (·.num)) else decide (n ∈ w.ties.map (·.num)))) H) : InR neg (.int n) (.ref lt) H Q := by
  obtain ⟨ys, e1, e2, e3⟩ := h.td
  refine in_i e2 ?_
  rw [valV_isI (f := fun y : AT => y.2.num), nums_of e1]
  exact q
theorem ModAt.len_ties (h : ModAt H m ln lt w) (q : Q (.int w.ties.length) H) : cLenD [.ref lt] H Q := by
  obtain ⟨ys, e1, e2, e3⟩ := h.td
  exact len_d e2 (by rw [List.length_map, ← List.length_map (f := (·.2)) (as := ys), e1]; exact q)
theorem ModAt.len_names (h : ModAt H m ln lt w) (q : Q (.int w.names.length) H) : cLenL K [.ref ln] H Q := len_l h.nm (by rw [List.length_map]; exact q)
theorem ModAt.in_names (h : ModAt H m ln lt w) {n : Str} {neg : Bool} (q : Q (.bl (if neg then !decide (n ∈ w.names) else decide (n ∈ w.names))) H) : rIn K neg (.str n) (.ref ln) H Q :=
  in_l h.nm rfl (flat_str _) (by rw [inV_str]; exact q)
theorem ModAt.sorted (h : ModAt H m ln lt w) (s : w.ties.Pairwise fun a b => a.num < b.num) (l : w.ties.length ≤ 48) (q : ∀ a H', H a = none → Same H H' → H' a = some (.lst (w.ties.map fun t => V.int t.num)) → Q (.ref a) H') : cSortD [.ref lt] H Q := by
  obtain ⟨ys, e1, e2, e3⟩ := h.td
  refine sorted_d (ns := w.ties.map (·.num)) e2 (by rw [← e1, List.map_map, List.map_map, List.map_map]; rfl) (by rw [List.length_map]; omega) (by rw [List.pairwise_map]; exact s) fun a H' na s1 ea => q a H' na s1 (by rw [ea, List.map_map]; rfl)
theorem ModAt.put_old (h : ModAt H m ln lt w) (ne : m ≠ lt) (hl : w.ties.length ≤ 1000) {t : Tr} {a : Addr} (ht : H a = some (.tup (tupT t))) (hm : t.num ∈ w.ties.map (·.num)) {z : Hp → Prop}
    (k : ∀ H', Only lt H H' → ModAt H' m ln lt { w with ties := w.ties.map fun u => if u.num = t.num then t else u } → z H') : PutR (.ref a) (.ref lt) (.int t.num) H z := by
  obtain ⟨ys, e1, e2, e3⟩ := h.td
  have el : ys.length = w.ties.length := by rw [← e1, List.length_map]
  refine put_i e2 (by rw [List.length_map]; omega) ?_
  rw [putK_old (k := fun y : AT => (Sum.inl y.2.num : Key)) (v := fun y => V.ref y.1)]
  · let zs : List AT := ys.map fun y => if y.2.num = t.num then (a, t) else y
    have ez : (ys.map fun y : AT => ((Sum.inl y.2.num : Key), if (Sum.inl y.2.num : Key) = Sum.inl t.num then V.ref a else V.ref y.1)) = tiesD zs := by
      show _ = (ys.map _).map _
      rw [List.map_map]
      refine List.map_congr_left fun y _ => ?_
      dsimp only [Function.comp]
      by_cases c : y.2.num = t.num
      · rw [if_pos c, if_pos (by rw [c]), c]
      · rw [if_neg c, if_neg fun e => c (Sum.inl.inj e)]
    have e4 : zs.map (·.2) = w.ties.map fun u => if u.num = t.num then t else u := by
      rw [← e1, List.map_map, List.map_map]
      refine List.map_congr_left fun y _ => ?_
      dsimp only [Function.comp]
      split <;> rfl
    rw [ez]
    have r := h.s_ties ne zs fun y hy => by
      obtain ⟨u, hu, e⟩ := List.mem_map.mp hy
      by_cases c : u.2.num = t.num
      · rw [if_pos c] at e
        rw [← e]; exact ht
      · rw [if_neg c] at e
        rw [← e]; exact e3 u hu
    rw [e4] at r
    exact k _ Only.upd r
  · rw [← nums_of e1] at hm
    obtain ⟨y, hy, e⟩ := List.mem_map.mp hm
    exact List.mem_map.mpr ⟨y, hy, by rw [e]⟩
theorem ModAt.put_new (h : ModAt H m ln lt w) (ne : m ≠ lt) (hl : w.ties.length ≤ 1000) {t : Tr} {a : Addr} (ht : H a = some (.tup (tupT t))) (hm : ∀ u ∈ w.ties, u.num ≠ t.num) {z : Hp → Prop}
    (k : ∀ H', Only lt H H' → ModAt H' m ln lt { w with ties := w.ties ++ [t] } → z H') : PutR (.ref a) (.ref lt) (.int t.num) H z := by
  obtain ⟨ys, e1, e2, e3⟩ := h.td
  have el : ys.length = w.ties.length := by rw [← e1, List.length_map]
  refine put_i e2 (by rw [List.length_map]; omega) ?_
  rw [putK_new (k := fun y : AT => (Sum.inl y.2.num : Key)) (v := fun y => V.ref y.1) fun y hy e => hm y.2 (by rw [← e1]; exact List.mem_map_of_mem hy) (Sum.inl.inj e)]
  have r := h.s_ties ne (ys ++ [(a, t)]) fun y hy => by
    rcases List.mem_append.mp hy with hy | hy
    · exact e3 y hy
    · rw [List.mem_singleton.mp hy]; exact ht
  rw [List.map_append, e1] at r
  have e5 : tiesD (ys ++ [(a, t)]) = tiesD ys ++ [(Sum.inl t.num, V.ref a)] := List.map_append
  rw [e5] at r
  exact k _ Only.upd r
theorem ModAt.pop (h : ModAt H m ln lt w) (ne : m ≠ lt) (s : w.ties.Pairwise fun a b => a.num < b.num) {t : Tr} (ht : t ∈ w.ties) (q : ∀ v H', Only lt H H' → ModAt H' m ln lt (w.dropTie t.num) → Q v H') : PopK lt (.int t.num) H Q := by
  obtain ⟨ys, e1, e2, e3⟩ := h.td
  have ht' := ht
  rw [← e1] at ht'
  obtain ⟨y, hy, e⟩ := List.mem_map.mp ht'
  refine ⟨_, .inl t.num, _, e2, rfl, ?_, q (V.ref y.1) _ Only.upd ?_⟩
  · have := valV_at (k := fun y : AT => (Sum.inl y.2.num : Key)) (v := fun y => V.ref y.1) (keys_nd e1 s) hy
    rw [← e]; exact this
  · rw [dropK_map (k := fun y : AT => (Sum.inl y.2.num : Key)) (v := fun y => V.ref y.1)]
    have r := h.s_ties ne (ys.filter fun y => decide ((Sum.inl y.2.num : Key) ≠ Sum.inl t.num)) fun y hy => e3 y (List.mem_filter.mp hy).1
    have e4 : (ys.filter fun y => decide ((Sum.inl y.2.num : Key) ≠ Sum.inl t.num)).map (·.2) = w.ties.filter fun u => decide (u.num ≠ t.num) := by
      rw [← e1, List.filter_map]
      congr 1
      refine List.filter_congr fun y _ => ?_
      refine decide_eq_decide.mpr ⟨fun h e => h (by rw [show y.2.num = t.num from e]), fun h e => h (Sum.inl.inj e)⟩
    rw [e4] at r
    exact r
/-- names by an index -/
theorem name_at {a : Addr} {ns : List Str} {i : Int} (h : H a = some (.lst (ns.map V.str))) (h0 : 0 ≤ i) (h1 : i < ns.length) (q : ∀ x, ns[i.toNat]? = some x → Q (.str x) H) : rIxL K (.ref a) (.int i) H Q :=
  ix_li h h0 (by rw [List.length_map]; exact h1) fun v hv => by
    rw [List.getElem?_map] at hv
    cases e : ns[i.toNat]? with
    | none => rw [e] at hv; cases hv
    | some x => rw [e] at hv; rw [← Option.some.inj hv]; exact q x e
end
theorem two_apart : ∀ (n L : Int), 0 ≤ n → 2 ≤ L → L ≤ 16 → (n + 1 + n / 16 % (L - 1)) % L ≠ n % L := by
  intro n L h0 h2 h16
  have : L = 2 ∨ L = 3 ∨ L = 4 ∨ L = 5 ∨ L = 6 ∨ L = 7 ∨ L = 8 ∨ L = 9 ∨ L = 10 ∨ L = 11 ∨ L = 12 ∨ L = 13 ∨ L = 14 ∨ L = 15 ∨ L = 16 := by omega
  rcases this with rfl | rfl | rfl | rfl | rfl | rfl | rfl | rfl | rfl | rfl | rfl | rfl | rfl | rfl | rfl <;> omega
theorem names_ne {ns : List Str} (nd : ns.Nodup) {i j : Nat} {x y : Str} (hi : ns[i]? = some x) (hj : ns[j]? = some y) (ne : i ≠ j) : x ≠ y := by
  rintro rfl
  exact ne ((List.getElem?_inj (List.getElem?_eq_some_iff.mp hi).1 nd).mp (hi.trans hj.symm))
theorem dec_nn : decide (V.non = V.non) = true := decide_eq_true rfl
section
variable {K : PySem.W.Frag} {H H' : Hp} {Q : VK} {p lc ld m ln lt : Addr} {w w' : Wr}
theorem tie_at {a : Addr} {ts : List Tr} {i : Int} (h : H a = some (.lst (ts.map fun t => V.int t.num))) (h0 : 0 ≤ i) (h1 : i < ts.length) (q : ∀ t ∈ ts, Q (.int t.num) H) : rIxL K (.ref a) (.int i) H Q :=
  ix_li h h0 (by rw [List.length_map]; exact h1) fun v hv => by
    rw [List.getElem?_map] at hv
    cases e : ts[i.toNat]? with
    | none => rw [e] at hv; cases hv
    | some x => rw [e] at hv; rw [← Option.some.inj hv]; exact q x (List.mem_of_getElem? e)
theorem cut2 {a : Addr} {t : Tr} (h : H a = some (.tup (tupT t))) (q : ∀ l H', H l = none → Same H H' → H' l = some (.tup [.str t.tl, .str t.hd]) → Q (.ref l) H') : rSlT K (.ref a) none (some 2) H Q :=
  sl_t h (fun h => absurd h.2 (by show ¬ HT.sIx 4 4 (some 2) = 4; decide)) fun l H' nl s e => q l H' nl s (by rw [e, show (2 : Int) = ((2 : Nat) : Int) from rfl, cutV_take]; rfl)
theorem keep3 {x : Addr} {S : List Addr} (k : Keep [x] H H') (h : x ∈ S) : Keep S H H' := k.mono fun c hc => by rw [List.mem_singleton.mp hc]; exact h
end
theorem st_law_put_tie (a0 a1 a2 a3 : V) : L2.start n_law_put_tie [a0, a1, a2, a3] = [some a0, some a1, some a2, some a3, none, none, none, none, none, none, none] := rfl
theorem pure_law_put_tie {w : World} {K : PySem.W.Frag} {mg : Str → Option Value} (T : Tx w K mg) (vs : List V) (H : Hp) (Q : VK) (E : XK) (h : sp_law_put_tie K vs H Q E) : t_law_put_tie K { nx := fun _ H' => Q .non H', rt := Q } (start n_law_put_tie vs) H := by
  show t_law_put_tie K (D0 Q) (start n_law_put_tie vs) H
  unfold t_law_put_tie
  obtain ⟨p, lc, ld, m, ln, lt, w, c, k, rfl, k0, k1, hd, ok, n2, tl, q⟩ := h
  rw [st_law_put_tie]
  have ap := hd.ap
  have hm := hd.mod
  have hw := hd.web
  have nl := ok.len
  have fin : ∀ (a b : Str) (l : Int) (o : Bool) (n : Int) (H' : Hp), a ∈ w.names → b ∈ w.names → a ≠ b → 0 ≤ l → l ≤ 10 ^ 60 → Keep [p, lc, ld] H H' → WebAt K H' p lc ld (w.putTie a b l o) → ModAt H' m ln lt w →
      (tSeq (sDPut (tVar 1) (tC (.str "given")) (tOp oAdd (tDGet (tVar 1) (tC (.str "given"))) (tC (.int 1)))) (tSeq (sDPut (tDGet (tVar 1) (tC (.str "ties"))) (tDGet (tVar 1) (tC (.str "given"))) (tTup (tCons (tVar 6) (tCons (tVar 7) (tCons (tVar 8) (tCons (tVar 9) tNil)))))) (tRet (tCall (sp_law_whole K) [] E0 (tCons (tVar 10) (tCons (tDGet (tVar 1) (tC (.str "given"))) tNil))))))
        (D0 Q) [some (.ref p), some (.ref m), some (.int c), some (.int k), some (.ref ln), some (.int n), some (.str a), some (.str b), some (.int l), some (.bl o), some (.int (w.given + 1))] H' := by
    intro a b l o n H' ha hb ne l0 l1 kk hw' hm'
    walk_at "w"
    refine hm'.g_given ?_
    walk_at "w"
    refine hm'.s_given (w.given + 1) ap.n4 fun H2 o2 hm2 => ?_
    have hw2 := web_keep ap hw' hm' (keep3 o2.keep (by simp))
    walk_at "w"
    refine new_l (by simp) fun t H3 nt s3 et => ?_
    have hm3 := hm2.up s3
    have hw3 := hw2.up s3
    walk_at "w"
    refine hm3.g_ties ?_
    walk_at "w"
    refine hm3.g_given ?_
    refine hm3.put_new (t := ⟨w.given + 1, a, b, l, o⟩) ap.n4 (Nat.le_trans (Nat.le_of_lt tl) (by decide)) et (fun u hu e => ?_) fun H4 o4 hm4 => ?_
    · have := (ok.tie u hu).high
      have e : u.num = w.given + 1 := e
      omega
    have hw4 := web_keep ap hw3 hm3 (keep3 o4.keep (by simp))
    walk_at "w"
    refine hm4.g_given ?_
    walk_at "w"
    refine ⟨w.given + 1, rfl, ?_⟩
    walk_at "w"
    have kA : Keep [p, lc, ld, m, ln, lt] H H4 := ((kk.mono fun c hc => by simp only [List.mem_cons, List.not_mem_nil, or_false] at hc ⊢; rcases hc with h | h | h <;> simp [h]).trans (keep3 o2.keep (by simp))).trans ((Keep.of s3).trans (keep3 o4.keep (by simp)))
    exact q (w.putTie a b l o) H4 kA (Wd.of ap hw4 hm4) (wok_putTie ok ha hb ne l0 l1 tl) rfl rfl (by show (w.ties ++ [_]).length = _; rw [List.length_append]; rfl)
  walk_at "w"
  refine hm.g_names ?_
  walk_at "w"
  refine ⟨c, k, 2, rfl, k0, k1, by decide, by decide, fun n n0 n1 => ?_⟩
  walk_at "w"
  refine hm.len_names ?_
  refine o_mod (by omega) ?_
  have L2 : (2 : Int) ≤ w.names.length := by omega
  have L16 : (w.names.length : Int) ≤ 16 := by omega
  have i0 : 0 ≤ n % (w.names.length : Int) := Int.emod_nonneg _ (by omega)
  have i1 : n % (w.names.length : Int) < w.names.length := Int.emod_lt_of_pos _ (by omega)
  refine name_at hm.nm i0 i1 fun a ha => ?_
  walk_at "w"
  refine hm.len_names ?_
  walk_at "w"
  refine o_mod (by omega) ?_
  walk_at "w"
  refine hm.len_names ?_
  refine o_mod (by omega) ?_
  have j0 : 0 ≤ (n + 1 + n / 16 % ((w.names.length : Int) - 1)) % (w.names.length : Int) := Int.emod_nonneg _ (by omega)
  have j1 : (n + 1 + n / 16 % ((w.names.length : Int) - 1)) % (w.names.length : Int) < w.names.length := Int.emod_lt_of_pos _ (by omega)
  have ij := two_apart n w.names.length n0 L2 L16
  refine name_at hm.nm j0 j1 fun b hb => ?_
  have ne : a ≠ b := names_ne ok.nd ha hb (by omega)
  have ha := List.mem_of_getElem? ha
  have hb := List.mem_of_getElem? hb
  walk_at "w"
  refine ⟨c, k, 3, rfl, k0, k1, by decide, by decide, fun l H1 l0 l1 s1 => ?_⟩
  have hw1 := hw.up s1
  have hm1 := hm.up s1
  walk_at "w"
  refine if_d (fun c1 => ?_) (fun c1 => ?_)
  · walk_at "w"
    refine new_l (by simp) fun t H2 nt s2 et => ?_
    refine g_tup et rfl ?_
    have hw2 := hw1.up s2
    have hm2 := hm1.up s2
    walk_at "w"
    refine ⟨p, lc, ld, w, a, b, 0, false, rfl, hw2, ok, ha, hb, ne, by decide, by decide, tl, fun H3 k3 hw3 => ?_⟩
    have k3' : Keep [p, lc, ld] H2 H3 := k3.mono fun c hc => by simp only [List.mem_cons, List.not_mem_nil, or_false] at hc ⊢; rcases hc with h | h <;> simp [h]
    have hm3 := mod_keep ap hw2 hm2 k3'
    walk_at "v"
    walk_at "v"
    exact fin a b 0 false n H3 ha hb ne (by decide) (by decide) ((Keep.of (s1.trans s2)).trans k3') hw3 hm3
  · walk_at "w"
    refine if_d (fun c2 => ?_) (fun c2 => ?_)
    · walk_at "w"
      refine ⟨p, lc, ld, w, a, b, l, false, rfl, hw1, ok, ha, hb, ne, l0, l1, tl, fun H3 k3 hw3 => ?_⟩
      have k3' : Keep [p, lc, ld] H1 H3 := k3.mono fun c hc => by simp only [List.mem_cons, List.not_mem_nil, or_false] at hc ⊢; rcases hc with h | h <;> simp [h]
      have hm3 := mod_keep ap hw1 hm1 k3'
      walk_at "v"
      walk_at "v"
      exact fin a b l false n H3 ha hb ne l0 l1 ((Keep.of s1).trans k3') hw3 hm3
    · walk_at "w"
      refine ⟨p, lc, ld, w, a, b, l, _, rfl, hw1, ok, ha, hb, ne, l0, l1, tl, fun H3 k3 hw3 => ?_⟩
      have k3' : Keep [p, lc, ld] H1 H3 := k3.mono fun c hc => by simp only [List.mem_cons, List.not_mem_nil, or_false] at hc ⊢; rcases hc with h | h <;> simp [h]
      have hm3 := mod_keep ap hw1 hm1 k3'
      walk_at "v"
      walk_at "v"
      exact fin a b l _ n H3 ha hb ne l0 l1 ((Keep.of s1).trans k3') hw3 hm3
theorem sub3 {S : List Addr} {p lc ld : Addr} {H H' : Hp} (k : Keep S H H') (h : ∀ c ∈ S, c = p ∨ c = lc ∨ c = ld) : Keep [p, lc, ld] H H' := k.mono fun c hc => by simpa using h c hc
theorem up6 {p lc ld m ln lt : Addr} {H H' : Hp} (k : Keep [p, lc, ld] H H') : Keep [p, lc, ld, m, ln, lt] H H' := k.mono fun c hc => by simp only [List.mem_cons, List.not_mem_nil, or_false] at hc ⊢; rcases hc with h | h | h <;> simp [h]
theorem up6m {p lc ld m ln lt : Addr} {H H' : Hp} (k : Keep [m, ln, lt] H H') : Keep [p, lc, ld, m, ln, lt] H H' := k.mono fun c hc => by simp only [List.mem_cons, List.not_mem_nil, or_false] at hc ⊢; rcases hc with h | h | h <;> simp [h]
theorem k1in3 {x p lc ld : Addr} {H H' : Hp} (k : Keep [x] H H') (h : x = p ∨ x = lc ∨ x = ld) : Keep [p, lc, ld] H H' := k.mono fun c hc => by rw [List.mem_singleton.mp hc]; simpa using h
theorem g_tupT {K : PySem.W.Frag} {H : Hp} {σ : L2.St} {u : TGs} {a : Addr} {t : Tr} {N : L2.St → Hp → Prop} (h : H a = some (.tup (tupT t))) (q : u [.str t.tl, .str t.hd, .int t.load, .bl t.ow] σ H N) : gTup K 4 u (.ref a) σ H N := g_tup h rfl q
theorem st_law_tie_changed (a0 a1 a2 a3 a4 : V) : L2.start n_law_tie_changed [a0, a1, a2, a3, a4] = [some a0, some a1, some a2, some a3, some a4, none, none, none, none, none, none] := rfl
theorem pure_law_tie_changed {w : World} {K : PySem.W.Frag} {mg : Str → Option Value} (T : Tx w K mg) (vs : List V) (H : Hp) (Q : VK) (E : XK) (h : sp_law_tie_changed K vs H Q E) : t_law_tie_changed K { nx := fun _ H' => Q .non H', rt := Q } (start n_law_tie_changed vs) H := by
  show t_law_tie_changed K (D0 Q) (start n_law_tie_changed vs) H
  unfold t_law_tie_changed
  obtain ⟨p, lc, ld, m, ln, lt, w, c, k, g, rfl, k0, k1, hd, ok, tne, q⟩ := h
  rw [st_law_tie_changed]
  have ap := hd.ap
  have hm := hd.mod
  have hw := hd.web
  have tl1 : 1 ≤ w.ties.length := by
    cases h : w.ties with
    | nil => exact absurd h tne
    | cons a l => rw [List.length_cons]; omega
  walk_at "w"
  refine ⟨c, k, 4, rfl, k0, k1, by decide, by decide, fun n n0 n1 => ?_⟩
  walk_at "w"
  refine hm.g_ties ?_
  walk_at "w"
  refine hm.sorted ok.srt ok.tlen fun a H1 na s1 ea => ?_
  have hm1 := hm.up s1
  have hw1 := hw.up s1
  walk_at "w"
  refine hm1.g_ties ?_
  walk_at "w"
  refine hm1.len_ties ?_
  refine o_mod (by omega) ?_
  have i0 : 0 ≤ n % (w.ties.length : Int) := Int.emod_nonneg _ (by omega)
  have i1 : n % (w.ties.length : Int) < w.ties.length := Int.emod_lt_of_pos _ (by omega)
  refine tie_at ea i0 i1 fun t ht => ?_
  walk_at "w"
  cases g with
  | true =>
    walk_at "w"
    refine v_pop ?_
    walk_at "w"
    refine hm1.g_ties ?_
    obtain ⟨ys, _, y2, _⟩ := hm1.td
    refine isd_k y2 ?_
    walk_at "w"
    refine hm1.pop ap.n4 ok.srt ht fun v H2 o2 hm2 => ?_
    have hw2 := web_keep ap hw1 hm1 (keep3 o2.keep (by simp))
    walk_at "w"
    refine ⟨p, lc, ld, w, t, rfl, hw2, ok.srt, ht, fun H3 k3 hw3 => ?_⟩
    have k3' : Keep [p, lc, ld] H2 H3 := k1in3 k3 (by simp)
    have hm3 := mod_keep ap hw2 hm2 k3'
    walk_at "w"
    rw [dec_nn]
    exact q (w.dropTie t.num) H3 (((Keep.of s1).trans (keep3 o2.keep (by simp))).trans (up6 k3')) (Wd.of ap hw3 hm3) (wok_dropTie ok) rfl rfl
  | false =>
    walk_at "w"
    refine hm1.g_ties ?_
    walk_at "w"
    refine hm1.get_tie ok.srt ht fun b hb => ?_
    refine g_tupT hb ?_
    walk_at "w"
    refine ⟨c, k, 5, rfl, k0, k1, by decide, by decide, fun l H2 l0 l1 s2 => ?_⟩
    have hm2 := hm1.up s2
    have hw2 := hw1.up s2
    walk_at "w"
    refine new_l (by simp) fun d H3 nd s3 ed => ?_
    have hm3 := hm2.up s3
    have hw3 := hw2.up s3
    walk_at "w"
    refine hm3.g_ties ?_
    walk_at "w"
    refine hm3.put_old (t := { t with load := l }) ap.n4 (by have := ok.tlen; omega) ed (List.mem_map.mpr ⟨t, ht, rfl⟩) fun H4 o4 hm4 => ?_
    have hw4 := web_keep ap hw3 hm3 (keep3 o4.keep (by simp))
    walk_at "w"
    refine ⟨p, lc, ld, w, t, l, rfl, hw4, ok.srt, ok.tlen, ht, l0, l1, fun H5 k5 hw5 => ?_⟩
    have k5' : Keep [p, lc, ld] H4 H5 := k1in3 k5 (by simp)
    have hm5 := mod_keep ap hw4 hm4 k5'
    walk_at "w"
    rw [dec_nn]
    have e : (w.ties.map fun u => if u.num = t.num then { t with load := l } else u) = w.ties.map fun u => if u.num = t.num then { u with load := l } else u := by
      refine List.map_congr_left fun u hu => ?_
      by_cases c : u.num = t.num
      · rw [if_pos c, if_pos c, num_inj ok.srt hu ht c]
      · rw [if_neg c, if_neg c]
    dsimp only at hm5
    rw [e] at hm5
    exact q (w.setLoad t.num l) H5 ((((Keep.of s1).trans (Keep.of s2)).trans (Keep.of s3)).trans ((keep3 o4.keep (by simp)).trans (up6 k5'))) (Wd.of ap hw5 hm5) (wok_setLoad ok l0 l1) rfl rfl
theorem st_law_moved (a0 a1 a2 a3 : V) : L2.start n_law_moved [a0, a1, a2, a3] = [some a0, some a1, some a2, some a3, none, none, none, none, none] := rfl
theorem pure_law_moved {w : World} {K : PySem.W.Frag} {mg : Str → Option Value} (T : Tx w K mg) (vs : List V) (H : Hp) (Q : VK) (E : XK) (h : sp_law_moved K vs H Q E) : t_law_moved K { nx := fun _ H' => Q .non H', rt := Q } (start n_law_moved vs) H := by
  show t_law_moved K (D0 Q) (start n_law_moved vs) H
  unfold t_law_moved
  obtain ⟨m, ln, lt, l, w, a, b, us, rfl, hm, n4, srt, tl, nl, el, und, usub, q⟩ := h
  rw [st_law_moved]
  have hl2 : l ≠ lt := by
    obtain ⟨_, _, f, _⟩ := hm.td
    exact ne_obj el f (by intro e; cases e)
  let st : Option V → Option V → Option V → Option V → Option V → L2.St := fun o4 o5 o6 o7 o8 => [some (.ref m), some (.str a), some (.str b), some (.ref l), o4, o5, o6, o7, o8]
  let P : List Tr → L2.St → Hp → Prop := fun done σ H' => (∃ o4 o5 o6 o7 o8, σ = st o4 o5 o6 o7 o8) ∧ Keep [lt] H H' ∧ ModAt H' m ln lt { w with ties := w.ties.map fun t => if t.num ∈ done.map (·.num) then mv a b t else t }
  walk_at "w"
  refine f_list us (fun t => V.int t.num) P (.inl (.inl el)) ⟨⟨_, _, _, _, _, rfl⟩, Keep.refl _ _, ?_⟩ (fun _ _ _ H' _ h => .inl (.inl (h.2.1 _ _ (by rw [List.mem_singleton]; exact hl2) el))) (fun done u rest σ H1 ey h => ?_) (fun σ H1 h => ?_)
  · have e : (w.ties.map fun t => if t.num ∈ ([] : List Tr).map (·.num) then mv a b t else t) = w.ties := by simp
    rw [e]
    exact hm
  · obtain ⟨⟨o4, o5, o6, o7, o8, rfl⟩, k1, hm1⟩ := h
    dsimp only [st]
    have hu : u ∈ us := by rw [ey]; simp
    have hd : u.num ∉ done.map (·.num) := by
      rw [ey, List.map_append, List.map_cons] at und
      have := (List.nodup_append.mp und).2.2
      exact fun h => this _ h _ List.mem_cons_self rfl
    have nm0 : ∀ t : Tr, (if t.num ∈ done.map (·.num) then mv a b t else t).num = t.num := fun t => by split <;> rfl
    have srt1 := pairwise_map_num (f := fun t => if t.num ∈ done.map (·.num) then mv a b t else t) srt nm0
    have hu1 : u ∈ w.ties.map fun t => if t.num ∈ done.map (·.num) then mv a b t else t := List.mem_map.mpr ⟨u, usub u hu, if_neg hd⟩
    have fin : ∀ (t : Tr) (x : Addr) (H2 : Hp) (z : Hp → Prop), Same H1 H2 → H2 x = some (.tup (tupT t)) → t = mv a b u → (∀ H', Keep [lt] H H' → ModAt H' m ln lt { w with ties := w.ties.map fun t => if t.num ∈ (done ++ [u]).map (·.num) then mv a b t else t } → z H') → PutR (.ref x) (.ref lt) (.int u.num) H2 z := by
      rintro t x H2 z s2 ex rfl hz
      have hm2 := hm1.up s2
      refine hm2.put_old (t := mv a b u) n4 (by dsimp only; rw [List.length_map]; omega) ex (List.mem_map.mpr ⟨u, hu1, rfl⟩) fun H3 o3 hm3 => ?_
      refine hz H3 ((k1.trans (Keep.of s2)).trans o3.keep) ?_
      have e : ((w.ties.map fun t => if t.num ∈ done.map (·.num) then mv a b t else t).map fun t => if t.num = (mv a b u).num then mv a b u else t) = w.ties.map fun t => if t.num ∈ (done ++ [u]).map (·.num) then mv a b t else t := by
        rw [List.map_map]
        refine List.map_congr_left fun t ht => ?_
        dsimp only [Function.comp]
        rw [nm0, List.map_append, List.map_cons, List.map_nil]
        by_cases c1 : t.num = u.num
        · rw [if_pos (show t.num = (mv a b u).num from c1), if_pos (by rw [List.mem_append, c1]; simp), num_inj srt ht (usub u hu) c1]
        · rw [if_neg (show ¬ t.num = (mv a b u).num from c1)]
          by_cases c2 : t.num ∈ done.map (·.num)
          · rw [if_pos c2, if_pos (List.mem_append_left _ c2)]
          · rw [if_neg c2, if_neg (by rw [List.mem_append, List.mem_singleton]; exact fun h => h.elim c2 c1)]
      rw [e] at hm3
      exact hm3
    walk_at "w"
    refine hm1.g_ties ?_
    walk_at "w"
    refine hm1.get_tie srt1 hu1 fun x hx => ?_
    refine g_tupT hx ?_
    walk_at "w"
    have tail : ∀ x' : Str, x' = (if u.tl = a then b else u.tl) → ∀ σ', σ' = st (some (.int u.num)) (some (.str x')) (some (.str u.hd)) (some (.int u.load)) (some (.bl u.ow)) →
        (sDPut (tDGet (tVar 0) (tC (.str "ties"))) (tVar 4) (tTup (tCons (tVar 5) (tCons (tIf (tTest (tOp rEq (tVar 6) (tVar 1))) (tVar 2) (tVar 6)) (tCons (tVar 7) (tCons (tVar 8) tNil)))))) (dFor (P (done ++ [u])) (D0 Q)) σ' H1 := by
      rintro x' hx' σ' rfl
      dsimp only [st]
      walk_at "w"
      refine if_d (fun c2 => ?_) (fun c2 => ?_)
      all_goals
        walk_at "w"
        refine new_l (by simp) fun d H2 nd s2 ed => ?_
        have hm2 := hm1.up s2
        walk_at "w"
        refine hm2.g_ties ?_
        walk_at "w"
      · refine fin ⟨u.num, x', b, u.load, u.ow⟩ d H2 _ s2 ed (by simp only [mv, c2, if_true, hx']) fun H3 k3 hm3 => ?_
        walk_at "w"
        exact ⟨⟨_, _, _, _, _, rfl⟩, k3, hm3⟩
      · refine fin ⟨u.num, x', u.hd, u.load, u.ow⟩ d H2 _ s2 ed (by simp only [mv, c2, if_false, hx']) fun H3 k3 hm3 => ?_
        walk_at "w"
        exact ⟨⟨_, _, _, _, _, rfl⟩, k3, hm3⟩
    refine if_d (fun c1 => ?_) (fun c1 => ?_)
    · walk_at "v"
      walk_at "v"
      walk_at "v"
      exact tail b (by rw [if_pos c1]) _ rfl
    · walk_at "v"
      walk_at "v"
      walk_at "v"
      exact tail u.tl (by rw [if_neg c1]) _ rfl
  · obtain ⟨_, k1, hm1⟩ := h
    walk_at "w"
    exact q H1 k1 hm1
theorem st_law_at (a0 a1 : V) : L2.start n_law_at [a0, a1] = [some a0, some a1, none] := rfl
theorem pure_law_at {w : World} {K : PySem.W.Frag} {mg : Str → Option Value} (T : Tx w K mg) (vs : List V) (H : Hp) (Q : VK) (E : XK) (h : sp_law_at K vs H Q E) : t_law_at K { nx := fun _ H' => Q .non H', rt := Q } (start n_law_at vs) H := by
  show t_law_at K (D0 Q) (start n_law_at vs) H
  unfold t_law_at
  obtain ⟨m, ln, lt, w, a, rfl, hm, srt, tl, q⟩ := h
  rw [st_law_at]
  walk_at "w"
  refine hm.g_ties ?_
  walk_at "w"
  refine hm.sorted srt tl fun x H1 nx s1 ex => ?_
  walk_at "w"
  refine l_filter w.ties (fun t => V.int t.num) (fun t => decide (t.tl = a ∨ t.hd = a)) (.inl (.inl ex)) (by omega) (fun t ht H2 s2 N k1 k0 => ?_) (fun d H2 nd s2 ed => ?_)
  · have hm2 := (hm.up s1).up s2
    walk_at "w"
    refine hm2.g_ties ?_
    walk_at "w"
    refine hm2.get_tie srt ht fun y hy => ?_
    walk_at "w"
    refine cut2 hy fun l H3 nl s3 el => ?_
    refine in_ends el ?_
    walk_at "w"
    have e : a ∈ [t.tl, t.hd] ↔ (t.tl = a ∨ t.hd = a) := by
      rw [List.mem_cons, List.mem_singleton]
      exact ⟨fun h => h.imp Eq.symm Eq.symm, fun h => h.imp Eq.symm Eq.symm⟩
    refine if_d (fun c => ?_) (fun c => ?_)
    · walk_at "w"
      exact k1 _ s3 (decide_eq_true (e.mp c))
    · exact k0 _ s3 (decide_eq_false fun h => c (e.mpr h))
  · walk_at "w"
    exact q d H2 (s1.free nd) (s1.trans s2) ed
section
variable {K : PySem.W.Frag} {H H' : Hp} {Q : VK} {a b : Addr} {x y : V} {d e : PyData}
theorem dpAll_map {α : Type} {enc : α → V} {D : α → PyData} : ∀ xs : List α, (∀ x ∈ xs, Dp K H (enc x) (D x)) → DpAll K H (xs.map enc) (xs.map D)
  | [], _ => .nil
  | x :: l, h => .cons (h x List.mem_cons_self) (dpAll_map l fun y hy => h y (List.mem_cons_of_mem _ hy))
theorem dp_ints {ns : List Int} (h : H a = some (.lst (ns.map V.int))) : Dp K H (.ref a) (.list (ns.map PyData.int)) := .lst (.inl (.inl h)) (dpAll_map ns fun x _ => .int x)
theorem dp_strs {ns : List Str} (h : H a = some (.lst (ns.map V.str))) : Dp K H (.ref a) (.list (ns.map PyData.str)) := .lst (.inl (.inl h)) (dpAll_map ns fun x _ => .str x)
def Sh (k : Nat) (d : PyData) : Prop := d.canLay0 = true ∧ d.depth ≤ k
theorem Sh.shaped {k : Nat} (h : Sh k d) (hk : k ≤ 64 := by decide) : SeqAt.shaped d = true := by
  unfold SeqAt.shaped
  rw [h.1, decide_eq_true (Nat.le_trans h.2 hk)]
  rfl
theorem sh_int (i : Int) : Sh 0 (.int i) := ⟨rfl, Nat.le_refl _⟩
theorem sh_bool (i : Bool) : Sh 0 (.bool i) := ⟨rfl, Nat.le_refl _⟩
theorem sh_str {x : Str} (h : x.cps.all (· < 0x110000) = true) : Sh 0 (.str x) := ⟨h, Nat.le_refl _⟩
theorem sh_name {x : Str} (h : okName x) : Sh 0 (.str x) := by
  refine sh_str ?_
  rw [← Array.all_toList, List.all_eq_true]
  intro c hc
  have := h.sg c hc
  rw [lets] at this
  refine decide_eq_true ?_
  simp only [List.mem_cons, List.not_mem_nil, or_false] at this
  omega
theorem sh_all {k : Nat} : ∀ ds : List PyData, (∀ d ∈ ds, Sh k d) → PyData.canLayAll0 ds = true ∧ PyData.depthAll ds ≤ k
  | [], _ => ⟨rfl, Nat.zero_le _⟩
  | d :: ds, h => by
    obtain ⟨h1, h2⟩ := sh_all ds fun e he => h e (List.mem_cons_of_mem _ he)
    obtain ⟨h3, h4⟩ := h d List.mem_cons_self
    exact ⟨by rw [PyData.canLayAll0, h1, h3]; rfl, by rw [PyData.depthAll]; exact Nat.max_le.mpr ⟨h4, h2⟩⟩
theorem sh_list {k : Nat} {ds : List PyData} (h : ∀ d ∈ ds, Sh k d) : Sh (k + 1) (.list ds) := ⟨by rw [PyData.canLay0]; exact (sh_all ds h).1, by rw [PyData.depth]; exact Nat.succ_le_succ (sh_all ds h).2⟩
theorem sh_tup {k : Nat} {ds : List PyData} (h : ∀ d ∈ ds, Sh k d) : Sh (k + 1) (.tuple ds) := ⟨by rw [PyData.canLay0]; exact (sh_all ds h).1, by rw [PyData.depth]; exact Nat.succ_le_succ (sh_all ds h).2⟩
theorem sh_ints (ns : List Int) : Sh 1 (.list (ns.map PyData.int)) := sh_list fun d hd => by
  obtain ⟨i, _, rfl⟩ := List.mem_map.mp hd
  exact sh_int i
theorem sh_names {ns : List Str} (h : ∀ x ∈ ns, okName x) : Sh 1 (.list (ns.map PyData.str)) := sh_list fun d hd => by
  obtain ⟨i, hi, rfl⟩ := List.mem_map.mp hd
  exact sh_name (h i hi)
theorem eqD_same {k : Nat} (h1 : Dp K H x d) (h2 : Dp K H y d) (h : Sh k d) (hk : k ≤ 64) (q : Q (.bl true) H) : rEqD K x y H Q := ⟨d, d, h1, h2, h.shaped hk, h.shaped hk, by rw [SeqAt.eqv_refl d h.1]; exact q⟩
theorem neD_same {k : Nat} (h1 : Dp K H x d) (h2 : Dp K H y d) (h : Sh k d) (hk : k ≤ 64) (q : Q (.bl false) H) : rNeD K x y H Q := ⟨d, d, h1, h2, h.shaped hk, h.shaped hk, by rw [SeqAt.eqv_refl d h.1]; exact q⟩
theorem eqvI (ns ms : List Int) : PyData.eqv (.list (ns.map PyData.int)) (.list (ms.map PyData.int)) = decide (ns = ms) := PySem.W.Datum.eqv ns ms
theorem eqvS (ns ms : List Str) : PyData.eqv (.list (ns.map PyData.str)) (.list (ms.map PyData.str)) = decide (ns = ms) := PySem.W.Datum.eqv ns ms
theorem eqD_ints {ns ms : List Int} (h1 : H a = some (.lst (ns.map V.int))) (h2 : H b = some (.lst (ms.map V.int))) (q : Q (.bl (decide (ns = ms))) H) : rEqD K (.ref a) (.ref b) H Q :=
  ⟨_, _, dp_ints h1, dp_ints h2, (sh_ints _).shaped, (sh_ints _).shaped, by rw [eqvI]; exact q⟩
theorem neD_ints {ns ms : List Int} (h1 : H a = some (.lst (ns.map V.int))) (h2 : H b = some (.lst (ms.map V.int))) (q : Q (.bl (!decide (ns = ms))) H) : rNeD K (.ref a) (.ref b) H Q :=
  ⟨_, _, dp_ints h1, dp_ints h2, (sh_ints _).shaped, (sh_ints _).shaped, by rw [eqvI]; exact q⟩
theorem eqD_strs {ns ms : List Str} (o1 : ∀ x ∈ ns, okName x) (o2 : ∀ x ∈ ms, okName x) (h1 : H a = some (.lst (ns.map V.str))) (h2 : H b = some (.lst (ms.map V.str))) (q : Q (.bl (decide (ns = ms))) H) : rEqD K (.ref a) (.ref b) H Q :=
  ⟨_, _, dp_strs h1, dp_strs h2, (sh_names o1).shaped, (sh_names o2).shaped, by rw [eqvS]; exact q⟩
variable {σ : L2.St} {g : TG} {t : TT} {te : TE} {β γ : Type}
def ItZ (K : PySem.W.Frag) (vs : List V) (H : Hp) (R : It → Hp → Prop) : Prop := ∃ a b xs ys, vs = [.ref a, .ref b] ∧ SqL K H a xs ∧ SqL K H b ys ∧ R (Itz K a b) H
theorem i_zip {ta : TA} {R : It → Hp → Prop} (h : ta σ H fun vs H1 => ItZ K vs H1 R) : iZip K ta σ H R := h
/-- a comprehension over zip of two rows of one length, some of the first kept -/
theorem l_zip {vs : List Nat} (ys : List β) (zs : List γ) (enc : β → V) (enz : γ → V) (P : γ → Bool) (hl : ys.length = zs.length) (hx : SqL K H a (ys.map enc)) (hz : SqL K H b (zs.map enz)) (hn : ys.length ≤ 100000)
    (turn : ∀ y ∈ ys, ∀ z ∈ zs, ∀ T H', Same H H' → H' T = some (.tup [enc y, enz z]) → ∀ N : Option V → Hp → Prop, (∀ H3, Same H' H3 → P z = true → N (some (enc y)) H3) → (∀ H3, Same H' H3 → P z = false → N none H3) → Turn g t te vs σ (.ref T) H' N)
    (fin : ∀ (us : List β) d H', us.Sublist ys → H d = none → Same H H' → H' d = some (.lst (us.map enc)) → Q (.ref d) H') : ItZ K [.ref a, .ref b] H fun J H1 => LcK J g t te vs σ H1 Q := by
  refine ⟨a, b, _, _, rfl, hx, hz, fun d hd => lcG ys.length hn hd (fun i acc _ => ∃ us : List β, us.Sublist (ys.take i) ∧ acc = us.map enc) ⟨[], List.nil_sublist _, rfl⟩ (fun _ _ _ _ _ h => h) (fun i H' hi s => ⟨_, _, _, _, s.seq hx, s.seq hz, by rw [List.getElem?_map, List.getElem?_eq_getElem hi]; rfl, by rw [List.getElem?_map, List.getElem?_eq_getElem (by omega)]; rfl⟩)
    (fun H' s => ⟨_, _, s.seq hx, s.seq hz, .inl (by rw [List.length_map]; exact Nat.le_refl _)⟩) (fun i acc H' hi s q e v H2 yl N kN => ?_) fun acc H' s e q => ?_⟩
  · obtain ⟨T, x, y, rfl, nT, rfl, h1, h2⟩ := yl
    have e1 : ys[i]? = some ys[i] := List.getElem?_eq_getElem hi
    have e2 : zs[i]? = some zs[i] := List.getElem?_eq_getElem (by omega)
    have h1 := h1 _ (s.seq hx)
    have h2 := h2 _ (s.seq hz)
    rw [List.getElem?_map, e1] at h1
    rw [List.getElem?_map, e2] at h2
    cases h1
    cases h2
    obtain ⟨us, u1, u2⟩ := q
    refine turn ys[i] (List.getElem_mem hi) zs[i] (List.getElem_mem (by omega)) T _ (s.trans (same_new nT)) upd_same N (fun H3 s3 c => kN _ H3 ((same_new nT).trans s3) ⟨us ++ [ys[i]], ?_, ?_⟩) fun H3 s3 c => kN _ H3 ((same_new nT).trans s3) ⟨us, ?_, ?_⟩
    · rw [take_snoc e1]
      exact u1.append (List.Sublist.refl _)
    · rw [u2, List.map_append]
      rfl
    · rw [take_snoc e1]
      exact u1.trans (List.sublist_append_left _ _)
    · rw [u2]; simp
  · obtain ⟨us, u1, rfl⟩ := q
    rw [List.take_of_length_le (Nat.le_refl _)] at u1
    exact fin us d H' u1 hd s e
end
section
variable {K : PySem.W.Frag} {H H' : Hp} {Q : VK} {a : Addr}
def own (w : Wr) (a : Str) : List Tr := w.ties.filter fun t => decide (t.tl = a ∨ t.hd = a)
theorem own_in {w : Wr} {a : Str} {t : Tr} (h : t ∈ own w a) : t ∈ w.ties ∧ (t.tl = a ∨ t.hd = a) := ⟨(List.mem_filter.mp h).1, of_decide_eq_true (List.mem_filter.mp h).2⟩
theorem own_nd {w : Wr} (ok : WOk w) (a : Str) : ((own w a).map (·.num)).Nodup := nums_nodup (ok.srt.sublist List.filter_sublist)
theorem own_all {w : Wr} (ok : WOk w) (a b : Str) : (w.ties.map fun t => if t.num ∈ (own w a).map (·.num) then mv a b t else t) = w.ties.map (mv a b) := by
  refine List.map_congr_left fun t ht => ?_
  by_cases c : t.tl = a ∨ t.hd = a
  · have hto : t ∈ own w a := List.mem_filter.mpr ⟨ht, decide_eq_true c⟩
    exact if_pos (List.mem_map_of_mem (f := fun t : Tr => t.num) hto)
  · rw [if_neg fun h => by
      obtain ⟨u, hu, e⟩ := List.mem_map.mp h
      have := num_inj ok.srt (own_in hu).1 ht e
      rw [this] at hu
      exact c (own_in hu).2]
    exact (mv_none (fun h => c (.inl h)) (fun h => c (.inr h))).symm
theorem sl_step1 {σ : L2.St} {te ts : TE} (h : te σ H fun x H1 => ts σ H1 fun y H2 => ∃ a xs, x = .ref a ∧ SqL K H2 a xs ∧
  ((y = .int 1 ∧ ∀ p, H2 p = none → Q (.ref p) (upd H2 p (.lst xs))) ∨ (y = .int (-1) ∧ ∀ p, H2 p = none → Q (.ref p) (upd H2 p (.lst xs.reverse))))) : tSlStep K te ts σ H Q := h
def StepR (K : PySem.W.Frag) (x y : V) (H : Hp) (Q : VK) : Prop := ∃ a xs, x = .ref a ∧ SqL K H a xs ∧
  ((y = .int 1 ∧ ∀ p, H p = none → Q (.ref p) (upd H p (.lst xs))) ∨ (y = .int (-1) ∧ ∀ p, H p = none → Q (.ref p) (upd H p (.lst xs.reverse))))
theorem v_slstep {σ : L2.St} {te ts : TE} (h : te σ H fun x H1 => ts σ H1 fun y H2 => StepR K x y H2 Q) : tSlStep K te ts σ H Q := h
theorem step_l {β : Type} {us : List β} {enc : β → V} {y : V} (h : H a = some (.lst (us.map enc))) (hy : y = .int 1 ∨ y = .int (-1)) (q : ∀ (vs : List β) p H', (vs = us ∨ vs = us.reverse) → H p = none → Same H H' → H' p = some (.lst (vs.map enc)) → Q (.ref p) H') : StepR K (.ref a) y H Q := by
  refine ⟨a, _, rfl, .inl (.inl h), ?_⟩
  rcases hy with rfl | rfl
  · exact .inl ⟨rfl, al fun p H' np s e => q us p H' (.inl rfl) np s e⟩
  · exact .inr ⟨rfl, al fun p H' np s e => q us.reverse p H' (.inr rfl) np s (by rw [e, List.map_reverse])⟩
theorem u_int {g : Int → V} {i : Int} (q : Q (g i) H) : rU g (.int i) H Q := ⟨i, rfl, q⟩
theorem pw20 : ∀ k : Nat, k < 20 → 0 < (1 : Int) * 2 ^ k ∧ (1 : Int) * 2 ^ k < 2 ^ 64 := by decide
theorem gsub_v {σ : L2.St} {ta tb : TE} {ts : TSet} {v : V} {N : L2.St → Hp → Prop} (h : ta σ H fun o H1 => tb σ H1 fun i H2 => ts o i v H2 fun H3 => N σ H3) : gSub ta tb ts v σ H N := h
end
theorem st_law_point_changed (a0 a1 a2 a3 a4 a5 : V) : L2.start n_law_point_changed [a0, a1, a2, a3, a4, a5] = [some a0, some a1, some a2, some a3, some a4, some a5, none, none, none, none, none, none, none, none, none, none, none, none, none, none] := rfl
theorem pure_law_point_changed {w : World} {K : PySem.W.Frag} {mg : Str → Option Value} (T : Tx w K mg) (vs : List V) (H : Hp) (Q : VK) (E : XK) (h : sp_law_point_changed K vs H Q E) : t_law_point_changed K { nx := fun _ H' => Q .non H', rt := Q } (start n_law_point_changed vs) H := by
  show t_law_point_changed K (D0 Q) (start n_law_point_changed vs) H
  unfold t_law_point_changed
  obtain ⟨p, lc, ld, m, ln, lt, fr, w, fs, c, k, y, rfl, k0, k1, hd, ok, nok, n2, nfr, ef, fne, fok, q⟩ := h
  rw [st_law_point_changed]
  have ap := hd.ap
  have hm := hd.mod
  have hw := hd.web
  have nl := ok.len
  have fl1 : 1 ≤ fs.length := by
    cases h : fs with
    | nil => exact absurd h fne
    | cons a l => rw [List.length_cons]; omega
  walk_at "w"
  refine hm.g_names ?_
  walk_at "w"
  refine ⟨c, k, 6, rfl, k0, k1, by decide, by decide, fun n n0 n1 => ?_⟩
  walk_at "w"
  refine hm.len_names ?_
  refine o_mod (by omega) ?_
  have i0 : 0 ≤ n % (w.names.length : Int) := Int.emod_nonneg _ (by omega)
  have i1 : n % (w.names.length : Int) < w.names.length := Int.emod_lt_of_pos _ (by omega)
  refine name_at hm.nm i0 i1 fun a ha => ?_
  have hain := List.mem_of_getElem? ha
  walk_at "w"
  refine ⟨m, ln, lt, w, a, rfl, hm, ok.srt, ok.tlen, fun ow H1 nw s1 eo => ?_⟩
  have hm1 := hm.up s1
  have hw1 := hw.up s1
  have ef1 := s1 _ _ ef
  have owl : (own w a).length ≤ 48 := Nat.le_trans (List.length_filter_le _ _) ok.tlen
  have nwn : ow ≠ ln := (ne_of_none hm.nm nw).symm
  have eo : H1 ow = some (.lst ((own w a).map fun t => V.int t.num)) := eo
  have ownd := own_nd ok a
  walk_at "w"
  refine o_mod (by rw [List.length_map]; omega) ?_
  rw [List.length_map]
  have j0 : 0 ≤ n / 20 % (fs.length : Int) := Int.emod_nonneg _ (by omega)
  have j1 : n / 20 % (fs.length : Int) < fs.length := Int.emod_lt_of_pos _ (by omega)
  refine name_at ef1 j0 j1 fun b hb => ?_
  have hbf := List.mem_of_getElem? hb
  obtain ⟨okb, hbn⟩ := fok b hbf
  walk_at "w"
  refine if_d (fun c1 => ?_) (fun c1 => ?_)
  · walk_at "w"
    refine gsub_v ?_
    walk_at "w"
    refine bm_l hm1.nm ?_
    walk_at "w"
    refine index_s hm1.nm hain fun j hj => ?_
    refine set_l hm1.nm (by rw [List.length_map]; exact (List.getElem?_eq_some_iff.mp hj).1) ?_
    have e : (w.names.map V.str).set j (.str b) = (w.names.map fun z => if z = a then b else z).map V.str := by rw [← List.map_set, set_map ok.nd hj]
    rw [e]
    have hm2 := hm1.s_names (w.names.map fun z => if z = a then b else z)
    have o2 : Only ln H1 (upd H1 ln (.lst ((w.names.map fun z => if z = a then b else z).map V.str))) := Only.upd
    generalize upd H1 ln (.lst ((w.names.map fun z => if z = a then b else z).map V.str)) = H2 at hm2 o2
    have hw2 := web_keep ap hw1 hm1 (keep3 o2.keep (by simp))
    walk_at "w"
    refine ⟨m, ln, lt, ow, { w with names := w.names.map fun z => if z = a then b else z }, a, b, own w a, rfl, hm2, ap.n4, ok.srt, ok.tlen, nwn, by rw [o2 _ nwn]; exact eo, ownd, fun u hu => (own_in hu).1, fun H3 k3 hm3 => ?_⟩
    have hw3 := web_keep ap hw2 hm2 (keep3 k3 (by simp))
    walk_at "w"
    refine ⟨p, lc, ld, w, a, b, rfl, hw3, ok, hain, okb, hbn, fun H4 k4 hw4 => ?_⟩
    have k4' : Keep [p, lc, ld] H3 H4 := sub3 k4 (by simp)
    have hm4 := mod_keep ap hw3 hm3 k4'
    walk_at "w"
    rw [dec_nn]
    dsimp only at hm4
    rw [own_all ok] at hm4
    refine q (w.rename a b) H4 ((((Keep.of s1).trans (keep3 o2.keep (by simp))).trans (keep3 k3 (by simp))).trans (up6 k4')) (Wd.of ap hw4 hm4) (wok_rename ok hbn) (fun x hx => ?_) rfl
    obtain ⟨z, hz, e⟩ := List.mem_map.mp hx
    by_cases cz : z = a
    · rw [if_pos cz] at e
      rw [← e]; exact .inr hbf
    · rw [if_neg cz] at e
      rw [← e]; exact .inl hz
  · have rest3 : (tSeq (tAsg (tLc (iList K (tVar 6)) (gName 19) (tTest (tOp (rEqD K) (tCall (sp_law_at K) [] E0 (tCons (tVar 1) (tCons (tVar 19) tNil))) (tLst (tNil)))) (tVar 19) [19]) (gName 15)) (tSeq (tIfS (tOr (tTest (tOp (rEqD K) (tVar 15) (tLst (tNil)))) (tTest (tOp oLt (tCB (cLenL K) (tCons (tVar 6) tNil)) (tC (.int 3))))) (tRet (tC (.bl true))) tNext) (tSeq (tDrop (tBM K "list" mRemS (tVar 6) (tCons (tOp (rIxL K) (tVar 15) (tOp oMod (tVar 7) (tCB (cLenL K) (tCons (tVar 15) tNil)))) tNil))) (tSeq (tAsg (tOp (rIxL K) (tLc (iList K (tVar 15)) (gName 19) (tTest (tOp (rIn K true) (tVar 19) (tVar 6))) (tVar 19) [19]) (tC (.int 0))) (gName 16)) (tRet (tOp oIsN (tMeth (He.ga K "Web") "drop_point" (sp_Web_drop_point K) [] E0 (tVar 0) (tCons (tVar 16) tNil)) (tC .non)))))))
        (D0 Q) [some (.ref p), some (.ref m), some (.ref fr), some (.int c), some (.int k), some (.int y), some (.ref ln), some (.int n), some (.str a), some (.ref ow), some (.str b), none, none, none, none, none, none, none, none, none] H1 := by
      walk_at "w"
      refine l_filter w.names V.str (fun x => decide (own w x = [])) (.inl (.inl hm1.nm)) (by omega) (fun x hx H2 s2 N k1 k0 => ?_) (fun id H2 nid s2 eid => ?_)
      · have hm2 := hm1.up s2
        walk_at "w"
        refine ⟨m, ln, lt, w, x, rfl, hm2, ok.srt, ok.tlen, fun o H3 no s3 eo3 => ?_⟩
        walk_at "w"
        refine new_l (by simp) fun e H4 ne s4 ee => ?_
        have eo4 : H4 o = some (.lst (((own w x).map (·.num)).map V.int)) := by rw [s4 _ _ eo3, List.map_map]; rfl
        refine eqD_ints (ms := []) eo4 ee ?_
        walk_at "w"
        refine if_d (fun c3 => ?_) (fun c3 => ?_)
        · walk_at "w"
          exact k1 _ (s3.trans s4) (decide_eq_true (List.map_eq_nil_iff.mp c3))
        · exact k0 _ (s3.trans s4) (decide_eq_false fun h => c3 (by rw [h]; rfl))
      have idl : (w.names.filter fun x => decide (own w x = [])).length ≤ 16 := Nat.le_trans (List.length_filter_le _ _) nl
      have idin : ∀ x ∈ (w.names.filter fun x => decide (own w x = [])), x ∈ w.names ∧ own w x = [] := fun x hx => ⟨(List.mem_filter.mp hx).1, of_decide_eq_true (List.mem_filter.mp hx).2⟩
      have idnd : (w.names.filter fun x => decide (own w x = [])).Nodup := ok.nd.sublist List.filter_sublist
      generalize (w.names.filter fun x => decide (own w x = [])) = idle at eid idl idin idnd
      have hm2 := hm1.up s2
      have hw2 := hw1.up s2
      walk_at "w"
      refine new_l (by simp) fun e H3 ne s3 ee => ?_
      refine eqD_strs (ms := []) (fun x hx => nok x (idin x hx).1) (fun x hx => nomatch hx) (s3 _ _ eid) ee ?_
      have hm3 := hm2.up s3
      have hw3 := hw2.up s3
      have sm3 := (s1.trans s2).trans s3
      walk_at "w"
      refine if_d (fun c3 => ?_) (fun c3 => ?_)
      · walk_at "w"
        exact q w H3 (Keep.of sm3) (Wd.of ap hw3 hm3) ok (fun x hx => .inl hx) rfl
      walk_at "w"
      refine hm3.len_names ?_
      walk_at "w"
      refine if_d (fun c4 => ?_) (fun c4 => ?_)
      · walk_at "w"
        exact q w H3 (Keep.of sm3) (Wd.of ap hw3 hm3) ok (fun x hx => .inl hx) rfl
      have id1 : 1 ≤ idle.length := by
        cases h : idle with
        | nil => exact absurd h c3
        | cons a l => rw [List.length_cons]; omega
      have eid3 := s3 _ _ eid
      walk_at "w"
      refine bm_l hm3.nm ?_
      walk_at "w"
      refine o_mod (by rw [List.length_map]; omega) ?_
      rw [List.length_map]
      refine name_at eid3 (Int.emod_nonneg _ (by omega)) (Int.emod_lt_of_pos _ (by omega)) fun x hx => ?_
      have hxi := List.mem_of_getElem? hx
      obtain ⟨hxn, hxo⟩ := idin x hxi
      walk_at "w"
      refine rem_s hm3.nm hxn ?_
      have hm4 := hm3.s_names (w.names.erase x)
      have o4 : Only ln H3 (upd H3 ln (.lst ((w.names.erase x).map V.str))) := Only.upd
      generalize upd H3 ln (.lst ((w.names.erase x).map V.str)) = H4 at hm4 o4
      have hw4 := web_keep ap hw3 hm3 (keep3 o4.keep (by simp))
      have nid4 : id ≠ ln := (ne_of_none hm1.nm nid).symm
      have eid4 : H4 id = some (.lst (idle.map V.str)) := by rw [o4 _ nid4]; exact eid3
      walk_at "w"
      refine l_filter idle V.str (fun z => decide (z = x)) (.inl (.inl eid4)) (by omega) (fun z hz H5 s5 N k1 k0 => ?_) (fun gn H5 ng s5 eg => ?_)
      · have hm5 := hm4.up s5
        walk_at "w"
        refine hm5.in_names ?_
        walk_at "w"
        have mem : z ∈ w.names.erase x ↔ z ≠ x := by
          rw [ok.nd.mem_erase_iff]
          exact ⟨fun h => h.1, fun h => ⟨h, (idin z hz).1⟩⟩
        refine if_n (fun c5 => ?_) (fun c5 => ?_)
        · walk_at "w"
          exact k1 _ (Same.refl _) (decide_eq_true (by by_cases h : z = x; exact h; exact absurd (mem.mpr h) c5))
        · exact k0 _ (Same.refl _) (decide_eq_false (mem.mp c5))
      · obtain ⟨l, hl⟩ : ∃ l, idle.filter (fun z => decide (z = x)) = x :: l := by
          have hxm : x ∈ idle.filter fun z => decide (z = x) := List.mem_filter.mpr ⟨hxi, decide_eq_true rfl⟩
          cases h : idle.filter fun z => decide (z = x) with
          | nil => rw [h] at hxm; exact nomatch hxm
          | cons a l =>
            have : a ∈ idle.filter fun z => decide (z = x) := by rw [h]; exact List.mem_cons_self
            have := of_decide_eq_true (List.mem_filter.mp this).2
            exact ⟨l, by rw [this]⟩
        rw [hl] at eg
        have hm5 := hm4.up s5
        have hw5 := hw4.up s5
        have h2 : ∀ t ∈ w.ties, t.tl ≠ x ∧ t.hd ≠ x := fun t ht => by
          have : t ∉ own w x := by rw [hxo]; exact fun h => nomatch h
          have h2 : ¬ (t.tl = x ∨ t.hd = x) := fun h => this (List.mem_filter.mpr ⟨ht, decide_eq_true h⟩)
          exact ⟨fun h => h2 (.inl h), fun h => h2 (.inr h)⟩
        walk_at "w"
        refine ix_l (n := 0) eg rfl ?_
        walk_at "w"
        refine ⟨p, lc, ld, w, x, rfl, hw5, ok, hxn, h2, fun H6 k6 hw6 => ?_⟩
        have k6' : Keep [p, lc, ld] H5 H6 := k1in3 k6 (by simp)
        have hm6 := mod_keep ap hw5 hm5 k6'
        walk_at "w"
        rw [dec_nn]
        have kA : Keep [p, lc, ld, m, ln, lt] H H6 := (Keep.of sm3).trans ((keep3 o4.keep (by simp)).trans ((Keep.of s5).trans (up6 k6')))
        exact q (w.dropPoint x) H6 kA (Wd.of ap hw6 hm6) (wok_dropPoint ok h2) (fun z hz => .inl (List.mem_of_mem_erase hz)) rfl
    have rest2 : (tSeq (tIfS (tAnd (tTest (tOp rEq (tVar 5) (tC (.int 2)))) (tTest (tOp oGt (tCB (cLenL K) (tCons (tVar 6) tNil)) (tC (.int 2))))) (tSeq (tAsg (tOp (rIxL K) (tVar 6) (tOp oMod (tOp oAdd (tOp oAdd (tVar 7) (tC (.int 1))) (tOp oMod (tOp oDiv (tVar 7) (tC (.int 16))) (tOp oSub (tCB (cLenL K) (tCons (tVar 6) tNil)) (tC (.int 1))))) (tCB (cLenL K) (tCons (tVar 6) tNil)))) (gName 10)) (tSeq (tFor (iList K (tLc (iList K (tVar 9)) (gName 14) (tTest (tOp (rIn K false) (tVar 10) (tSl (rSlT K) (tDGet (tDGet (tVar 1) (tC (.str "ties"))) (tVar 14)) tNoPart (tPart (tC (.int 2)))))) (tVar 14) [14])) (gName 14) (tDrop (tDPop1 (tDGet (tVar 1) (tC (.str "ties"))) (tVar 14)))) (tSeq (tDrop (tCall (sp_law_moved K) [] E0 (tCons (tVar 1) (tCons (tVar 10) (tCons (tVar 8) (tCons (tCall (sp_law_at K) [] E0 (tCons (tVar 1) (tCons (tVar 10) tNil))) tNil)))))) (tSeq (tDrop (tBM K "list" mRemS (tVar 6) (tCons (tVar 10) tNil))) (tRet (tOp oIsN (tMeth (He.ga K "Web") "join" (sp_Web_join K) [] E0 (tVar 0) (tCons (tVar 8) (tCons (tVar 10) tNil))) (tC .non))))))) tNext)
        (tSeq (tAsg (tLc (iList K (tVar 6)) (gName 19) (tTest (tOp (rEqD K) (tCall (sp_law_at K) [] E0 (tCons (tVar 1) (tCons (tVar 19) tNil))) (tLst (tNil)))) (tVar 19) [19]) (gName 15)) (tSeq (tIfS (tOr (tTest (tOp (rEqD K) (tVar 15) (tLst (tNil)))) (tTest (tOp oLt (tCB (cLenL K) (tCons (tVar 6) tNil)) (tC (.int 3))))) (tRet (tC (.bl true))) tNext) (tSeq (tDrop (tBM K "list" mRemS (tVar 6) (tCons (tOp (rIxL K) (tVar 15) (tOp oMod (tVar 7) (tCB (cLenL K) (tCons (tVar 15) tNil)))) tNil))) (tSeq (tAsg (tOp (rIxL K) (tLc (iList K (tVar 15)) (gName 19) (tTest (tOp (rIn K true) (tVar 19) (tVar 6))) (tVar 19) [19]) (tC (.int 0))) (gName 16)) (tRet (tOp oIsN (tMeth (He.ga K "Web") "drop_point" (sp_Web_drop_point K) [] E0 (tVar 0) (tCons (tVar 16) tNil)) (tC .non))))))))
        (D0 Q) [some (.ref p), some (.ref m), some (.ref fr), some (.int c), some (.int k), some (.int y), some (.ref ln), some (.int n), some (.str a), some (.ref ow), some (.str b), none, none, none, none, none, none, none, none, none] H1 := by
      walk_at "w"
      refine if_d (fun c2 => ?_) (fun c2 => ?_)
      · walk_at "w"
        refine hm1.len_names ?_
        walk_at "w"
        refine if_d (fun c3 => ?_) (fun c3 => ?_)
        · walk_at "w"
          refine hm1.len_names ?_
          walk_at "w"
          refine o_mod (by omega) ?_
          walk_at "w"
          refine hm1.len_names ?_
          refine o_mod (by omega) ?_
          have ij := two_apart n w.names.length n0 (by omega) (by omega)
          have j0 : 0 ≤ (n + 1 + n / 16 % ((w.names.length : Int) - 1)) % (w.names.length : Int) := Int.emod_nonneg _ (by omega)
          have j1 : (n + 1 + n / 16 % ((w.names.length : Int) - 1)) % (w.names.length : Int) < w.names.length := Int.emod_lt_of_pos _ (by omega)
          refine name_at hm1.nm j0 j1 fun b hb => ?_
          have ne : a ≠ b := names_ne ok.nd ha hb (by omega)
          have hbin := List.mem_of_getElem? hb
          walk_at "w"
          have nbE : ∀ t : Tr, b ∈ [t.tl, t.hd] ↔ (t.tl = b ∨ t.hd = b) := fun t => by
            rw [List.mem_cons, List.mem_singleton]
            exact ⟨fun h => h.imp Eq.symm Eq.symm, fun h => h.imp Eq.symm Eq.symm⟩
          refine l_filter (own w a) (fun t => V.int t.num) (fun t => decide (t.tl = b ∨ t.hd = b)) (.inl (.inl eo)) (by omega) (fun t ht H2 s2 N k1 k0 => ?_) (fun us H2 nus s2 eus => ?_)
          · have hm2 := hm1.up s2
            walk_at "w"
            refine hm2.g_ties ?_
            walk_at "w"
            refine hm2.get_tie ok.srt (own_in ht).1 fun y hy => ?_
            walk_at "w"
            refine cut2 hy fun l H3 nl s3 el => ?_
            refine in_ends el ?_
            walk_at "w"
            refine if_d (fun c => ?_) (fun c => ?_)
            · walk_at "w"
              exact k1 _ s3 (decide_eq_true ((nbE t).mp c))
            · exact k0 _ s3 (decide_eq_false fun h => c ((nbE t).mpr h))
          have hm2 := hm1.up s2
          have hw2 := hw1.up s2
          have un : us ≠ lt := by
            obtain ⟨_, _, f, _⟩ := hm1.td
            exact (ne_of_none f nus).symm
          have usl : ((own w a).filter fun t => decide (t.tl = b ∨ t.hd = b)).length ≤ 48 := Nat.le_trans (List.length_filter_le _ _) owl
          have usE : ∀ t ∈ w.ties, (t ∈ (own w a).filter fun t => decide (t.tl = b ∨ t.hd = b)) ↔ between a b t = true := fun t ht => by
            rw [List.mem_filter, own, List.mem_filter]
            unfold between
            rw [decide_eq_true_iff, decide_eq_true_iff, Bool.and_eq_true, Bool.or_eq_true, Bool.or_eq_true, decide_eq_true_iff, decide_eq_true_iff, decide_eq_true_iff, decide_eq_true_iff]
            exact ⟨fun h => ⟨h.1.2, h.2⟩, fun h => ⟨⟨ht, h.1⟩, h.2⟩⟩
          have usub : ∀ t ∈ (own w a).filter (fun t => decide (t.tl = b ∨ t.hd = b)), t ∈ w.ties := fun t ht => (own_in (List.mem_filter.mp ht).1).1
          have und : (((own w a).filter fun t => decide (t.tl = b ∨ t.hd = b)).map (·.num)).Nodup := nums_nodup ((ok.srt.sublist List.filter_sublist).sublist List.filter_sublist)
          generalize (own w a).filter (fun t => decide (t.tl = b ∨ t.hd = b)) = gs at eus usl usE usub und
          let P : List Tr → L2.St → Hp → Prop := fun done σ H' => (∃ o14, σ = [some (.ref p), some (.ref m), some (.ref fr), some (.int c), some (.int k), some (.int y), some (.ref ln), some (.int n), some (.str a), some (.ref ow), some (.str b), none, none, none, o14, none, none, none, none, none]) ∧ Keep [lt] H2 H' ∧ ModAt H' m ln lt { w with ties := w.ties.filter fun t => decide (t.num ∉ done.map (·.num)) }
          refine f_list gs (fun t => V.int t.num) P (.inl (.inl eus)) ⟨⟨_, rfl⟩, Keep.refl _ _, ?_⟩ (fun _ _ _ H' _ h => .inl (.inl (h.2.1 _ _ (by rw [List.mem_singleton]; exact un) eus))) (fun done u rest σ H3 ey h => ?_) (fun σ H3 h => ?_)
          · have e : (w.ties.filter fun t => decide (t.num ∉ ([] : List Tr).map (·.num))) = w.ties := List.filter_eq_self.mpr fun t _ => decide_eq_true (fun h => nomatch h)
            rw [e]
            exact hm2
          · obtain ⟨⟨o14, rfl⟩, k3, hm3⟩ := h
            have hu : u ∈ gs := by rw [ey]; simp
            have hd : u.num ∉ done.map (·.num) := by
              rw [ey, List.map_append, List.map_cons] at und
              have := (List.nodup_append.mp und).2.2
              exact fun h => this _ h _ List.mem_cons_self rfl
            walk_at "w"
            refine v_pop ?_
            walk_at "w"
            refine hm3.g_ties ?_
            obtain ⟨zs, _, z2, _⟩ := hm3.td
            refine isd_k z2 ?_
            walk_at "w"
            refine hm3.pop ap.n4 (ok.srt.sublist List.filter_sublist) (List.mem_filter.mpr ⟨usub u hu, decide_eq_true hd⟩) fun v H4 o4 hm4 => ?_
            walk_at "w"
            refine ⟨⟨_, rfl⟩, k3.trans o4.keep, ?_⟩
            unfold Wb.dropTie at hm4
            dsimp only at hm4
            rw [List.filter_filter] at hm4
            have e : (w.ties.filter fun t => (decide (t.num ≠ u.num) && decide (t.num ∉ done.map (·.num)))) = w.ties.filter fun t => decide (t.num ∉ (done ++ [u]).map (·.num)) := by
              refine List.filter_congr fun t _ => ?_
              rw [List.map_append, ← Bool.decide_and]
              refine decide_eq_decide.mpr ?_
              rw [List.mem_append, List.map_cons, List.map_nil, List.mem_singleton]
              exact ⟨fun h h' => h'.elim h.2 h.1, fun h => ⟨fun e => h (.inr e), fun e => h (.inl e)⟩⟩
            rw [e] at hm4
            exact hm4
          · obtain ⟨⟨o14, rfl⟩, k3, hm3⟩ := h
            have e : (w.ties.filter fun t => decide (t.num ∉ gs.map (·.num))) = w.ties.filter fun t => !between a b t := by
              refine List.filter_congr fun t ht => ?_
              rw [Bool.eq_iff_iff, decide_eq_true_iff, Bool.not_eq_true', ← Bool.not_eq_true]
              refine not_congr ⟨fun h => ?_, fun h => List.mem_map_of_mem (f := fun t : Tr => t.num) ((usE t ht).mpr h)⟩
              obtain ⟨v, hv, e⟩ := List.mem_map.mp h
              rw [← num_inj ok.srt (usub v hv) ht e]
              exact (usE v (usub v hv)).mp hv
            rw [e] at hm3
            have ok3 : WOk { w with ties := w.ties.filter fun t => !between a b t } := wok_sub ok List.filter_sublist
            have hw3 := web_keep ap hw2 hm2 (keep3 k3 (by simp))
            walk_at "w"
            refine ⟨m, ln, lt, _, b, rfl, hm3, ok3.srt, ok3.tlen, fun o4 H4 no4 s4 eo4 => ?_⟩
            have hm4 := hm3.up s4
            have hw4 := hw3.up s4
            walk_at "w"
            refine ⟨m, ln, lt, o4, _, b, a, own { w with ties := w.ties.filter fun t => !between a b t } b, rfl, hm4, ap.n4, ok3.srt, ok3.tlen, (ne_of_none hm3.nm no4).symm, eo4, own_nd ok3 b, fun u hu => (own_in hu).1, fun H5 k5 hm5 => ?_⟩
            rw [own_all ok3] at hm5
            have hw5 := web_keep ap hw4 hm4 (keep3 k5 (by simp))
            walk_at "w"
            refine bm_l hm5.nm ?_
            walk_at "w"
            refine rem_s hm5.nm hbin ?_
            have hm6 := hm5.s_names (w.names.erase b)
            have o6 : Only ln H5 (upd H5 ln (.lst ((w.names.erase b).map V.str))) := Only.upd
            show (dSeq _ _).nx _ (upd H5 ln (.lst ((w.names.erase b).map V.str)))
            generalize upd H5 ln (.lst ((w.names.erase b).map V.str)) = H6 at hm6 o6
            have hw6 := web_keep ap hw5 hm5 (keep3 o6.keep (by simp))
            walk_at "w"
            refine ⟨p, lc, ld, w, a, b, rfl, hw6, ok, hain, hbin, ne, fun H7 k7 hw7 => ?_⟩
            have k7' : Keep [p, lc, ld] H6 H7 := sub3 k7 (by simp)
            have hm7 := mod_keep ap hw6 hm6 k7'
            walk_at "w"
            rw [dec_nn]
            have kA : Keep [p, lc, ld, m, ln, lt] H H7 := (Keep.of (s1.trans s2)).trans ((keep3 k3 (by simp)).trans ((Keep.of s4).trans ((keep3 k5 (by simp)).trans ((keep3 o6.keep (by simp)).trans (up6 k7')))))
            exact q (w.join a b) H7 kA (Wd.of ap hw7 hm7) (wok_join ok hain ne) (fun z hz => .inl (List.mem_of_mem_erase hz)) rfl
        · walk_at "v"
          walk_at "v"
          exact rest3
      · walk_at "v"
        walk_at "v"
        exact rest3
    walk_at "w"
    refine if_d (fun c2 => ?_) (fun c2 => ?_)
    · walk_at "w"
      refine hm1.len_names ?_
      walk_at "w"
      refine if_d (fun c3 => ?_) (fun c3 => ?_)
      · walk_at "w"
        refine l_rng (n := (own w a).length) (fun i => .int (n / (1 * 2 ^ ((i : Int) % 20).toNat) % 2)) (by rw [List.length_map]) (by omega) (fun i hi H2 s2 N k1 => ?_) (fun bl H2 nbl s2 ebl => ?_)
        · have e20 : ((i : Int) % 20).toNat < 20 := by omega
          walk_at "w"
          refine o_shl (by omega) (by omega) (by decide) ?_
          refine o_div (pw20 _ e20).1 (pw20 _ e20).2 ?_
          walk_at "w"
          exact k1 _ (Same.refl _)
        have eo2 := s2 _ _ eo
        walk_at "w"
        refine v_slstep ?_
        walk_at "w"
        refine i_zip ?_
        walk_at "w"
        refine l_zip (own w a) (List.range (own w a).length) (fun t => V.int t.num) (fun i => .int (n / (1 * 2 ^ ((i : Int) % 20).toNat) % 2)) (fun i => decide (n / (1 * 2 ^ ((i : Int) % 20).toNat) % 2 = 1)) (by rw [List.length_range]) (.inl (.inl eo2)) (.inl (.inl ebl)) (by omega) (fun t ht i hi Tp H3 s3 eT N k1 k0 => ?_) (fun us cz H3 usl ncz s3 ecz => ?_)
        · walk_at "w"
          refine if_d (fun c4 => ?_) (fun c4 => ?_)
          · walk_at "w"
            exact k1 _ (Same.refl _) (decide_eq_true c4)
          · exact k0 _ (Same.refl _) (decide_eq_false c4)
        walk_at "w"
        refine u_int ?_
        walk_at "w"
        refine new_l (by simp) fun ol H4 nol s4 eol => ?_
        walk_at "w"
        refine ix_li eol (by omega) (by simp; omega) fun v hv => ?_
        have hv' : v = .int 1 ∨ v = .int (-1) := by simpa using List.mem_of_getElem? hv
        refine step_l (s4 _ _ ecz) hv' fun vs ch H5 hvs nch s5 ech => ?_
        have vin : ∀ u ∈ vs, u ∈ own w a := fun u hu => by
          rcases hvs with rfl | rfl
          · exact usl.subset hu
          · exact usl.subset (List.mem_reverse.mp hu)
        have vnd : (vs.map (·.num)).Nodup := by
          have h1 := ownd.sublist (usl.map (·.num))
          rcases hvs with rfl | rfl
          · exact h1
          · rw [List.map_reverse, List.nodup_iff_pairwise_ne, List.pairwise_reverse]; exact (List.nodup_iff_pairwise_ne.mp h1).imp Ne.symm
        have sm5 := (((s1.trans s2).trans s3).trans s4).trans s5
        have hm5 := hm.up sm5
        have hw5 := hw.up sm5
        walk_at "w"
        refine bm_l hm5.nm ?_
        walk_at "w"
        refine app_lo hm5.nm (by rw [List.length_map]; omega) fun H6 o6 e6 => ?_
        have hm6 : ModAt H6 m ln lt { w with names := w.names ++ [b] } := by
          have e : w.names.map V.str ++ [V.str b] = (w.names ++ [b]).map V.str := by rw [List.map_append]; rfl
          rw [e] at e6
          obtain ⟨zs, z1, z2, z3⟩ := hm5.td
          exact ⟨by rw [o6 _ hm5.m_ln]; exact hm5.ob, e6, zs, z1, by rw [o6 _ hm5.lt_ln]; exact z2, fun z hz => by rw [o6 _ (ne_obj (z3 z hz) hm5.nm (by intro e; cases e))]; exact z3 z hz⟩
        have hw6 := web_keep ap hw5 hm5 (keep3 o6.keep (by simp))
        have ncl : ch ≠ ln := by
          have h4 := ((((s1.trans s2).trans s3).trans s4)) _ _ hm.nm
          exact (ne_of_none h4 nch).symm
        have ech6 : H6 ch = some (.lst (vs.map fun t => V.int t.num)) := by rw [o6 _ ncl]; exact ech
        walk_at "w"
        refine ⟨m, ln, lt, ch, _, a, b, vs, rfl, hm6, ap.n4, ok.srt, ok.tlen, ncl, ech6, vnd, fun u hu => (own_in (vin u hu)).1, fun H7 k7 hm7 => ?_⟩
        have hw7 := web_keep ap hw6 hm6 (keep3 k7 (by simp))
        have nclt : ch ≠ lt := by
          obtain ⟨zs, z1, z2, z3⟩ := hm.td
          have h4 := ((((s1.trans s2).trans s3).trans s4)) _ _ z2
          exact (ne_of_none h4 nch).symm
        have ech7 : H7 ch = some (.lst (vs.map fun t => V.int t.num)) := k7 _ _ (by rw [List.mem_singleton]; exact nclt) ech6
        walk_at "w"
        refine list_l ech7 fun hd H8 nhd s8 ehd => ?_
        have hm8 := hm7.up s8
        have hw8 := hw7.up s8
        have ech8 := s8 _ _ ech7
        have nhc : hd ≠ lc := (ne_of_none hw7.cr nhd).symm
        walk_at "w"
        refine ⟨p, lc, ld, hd, w, a, b, vs, rfl, hw8, ok, hain, okb, hbn, by omega, nhc, ehd, vnd, fun u hu => own_in (vin u hu), fun H9 k9 hw9 => ?_⟩
        have k9' : Keep [p, lc, ld] H8 H9 := sub3 k9 (by simp)
        have hm9 := mod_keep ap hw8 hm8 k9'
        have h9 : ∀ z u, H8 z = some (.lst u) → z ≠ lc → H9 z = some (.lst u) := fun z u hz nz => k9 _ _ (by
          obtain ⟨_, _, f, _⟩ := hw8.td
          have := ne_obj hz f (by intro e; cases e)
          simp [nz, this]) hz
        have ncc : ch ≠ lc := by
          have h4 := ((((s1.trans s2).trans s3).trans s4)) _ _ hw.cr
          exact (ne_of_none h4 nch).symm
        have g1 : H9 hd = some (.lst ((vs.map (·.num)).map V.int)) := by rw [h9 _ _ ehd nhc, List.map_map]; rfl
        have g2 : H9 ch = some (.lst ((vs.map (·.num)).map V.int)) := by rw [h9 _ _ ech8 ncc, List.map_map]; rfl
        walk_at "w"
        rw [dec_nn]
        walk_at "w"
        refine eqD_ints g1 g2 ?_
        rw [decide_eq_true rfl]
        have kA : Keep [p, lc, ld, m, ln, lt] H H9 := (Keep.of sm5).trans ((keep3 o6.keep (by simp)).trans ((keep3 k7 (by simp)).trans ((Keep.of s8).trans (up6 k9'))))
        have hm9' : ModAt H9 m ln lt (w.part a b (vs.map fun t => t.num)) := hm9
        have hw9' : WebAt K H9 p lc ld (w.part a b (vs.map fun t => t.num)) := hw9
        refine q (w.part a b (vs.map fun t => t.num)) H9 kA (Wd.of ap hw9' hm9') (wok_part ok hbn (by omega)) (fun z hz => ?_) rfl
        rcases List.mem_append.mp hz with hz | hz
        · exact .inl hz
        · rw [List.mem_singleton.mp hz]; exact .inr hbf
      · walk_at "v"
        walk_at "v"
        exact rest2
    · walk_at "v"
      walk_at "v"
      exact rest2
theorem st_law_deed (a0 a1 a2 a3 a4 : V) : L2.start n_law_deed [a0, a1, a2, a3, a4] = [some a0, some a1, some a2, some a3, some a4, none, none, none, none] := rfl
theorem pure_law_deed {w : World} {K : PySem.W.Frag} {mg : Str → Option Value} (T : Tx w K mg) (vs : List V) (H : Hp) (Q : VK) (E : XK) (h : sp_law_deed K vs H Q E) : t_law_deed K { nx := fun _ H' => Q .non H', rt := Q } (start n_law_deed vs) H := by
  show t_law_deed K (D0 Q) (start n_law_deed vs) H
  unfold t_law_deed
  obtain ⟨p, lc, ld, m, ln, lt, po, w, ps, c, k, rfl, k0, k1, hd, ok, ep, pok, hin, npo, q⟩ := h
  obtain ⟨pl, pnd, pn⟩ := pok
  rw [st_law_deed]
  have ap := hd.ap
  have hm := hd.mod
  have hw := hd.web
  have nl := ok.len
  have nok : ∀ x ∈ w.names, okName x := fun x hx => pn x (hin x hx)
  obtain ⟨p0, hp0⟩ : ∃ x, ps[0]? = some x := ⟨_, List.getElem?_eq_getElem (by omega)⟩
  have p0l := (pn p0 (List.mem_of_getElem? hp0)).len
  have gl : ∀ w' : Wr, w'.given = w.given → w'.given ≤ w.given + 1 := fun w' h => by omega
  have rest : ∀ way : Int, (tSeq (tAsg (tLc (iList K (tVar 2)) (gName 8) (tTest (tOp (rIn K true) (tVar 8) (tVar 5))) (tVar 8) [8]) (gName 7)) (tSeq (tIfS (tAnd (tOr (tTest (tOp oLt (tVar 6) (tC (.int 5)))) (tTest (tOp oLt (tCB (cLenL K) (tCons (tVar 5) tNil)) (tC (.int 2))))) (tTest (tOp oLt (tCB (cLenL K) (tCons (tVar 5) tNil)) (tC (.int 16))))) (tSeq (tAsg (tOp (rIxL K) (tVar 7) (tOp oMod (tCall (sp_law_draw K) [] E0 (tCons (tVar 3) (tCons (tVar 4) (tCons (tC (.int 1)) tNil)))) (tCB (cLenL K) (tCons (tVar 7) tNil)))) (gName 8)) (tSeq (tDrop (tBM K "list" rAppend (tVar 5) (tCons (tVar 8) tNil))) (tRet (tOp oIsN (tMeth (He.ga K "Web") "put_point" (sp_Web_put_point K) [] E0 (tVar 0) (tCons (tVar 8) tNil)) (tC .non))))) tNext) (tSeq (tIfS (tAnd (tTest (tOp oLt (tVar 6) (tC (.int 11)))) (tTest (tOp oLt (tCB cLenD (tCons (tDGet (tVar 1) (tC (.str "ties"))) tNil)) (tC (.int 48))))) (tRet (tCall (sp_law_put_tie K) [] E0 (tCons (tVar 0) (tCons (tVar 1) (tCons (tVar 3) (tCons (tVar 4) tNil)))))) tNext) (tSeq (tIfS (tAnd (tTest (tOp oGt (tOp oMod (tVar 6) (tC (.int 16))) (tC (.int 12)))) (tTest (tOp oNeDK (tDGet (tVar 1) (tC (.str "ties"))) (tDNewK)))) (tRet (tCall (sp_law_tie_changed K) [] E0 (tCons (tVar 0) (tCons (tVar 1) (tCons (tVar 3) (tCons (tVar 4) (tCons (tOp rEq (tOp oMod (tVar 6) (tC (.int 2))) (tC (.int 1))) tNil))))))) tNext) (tRet (tCall (sp_law_point_changed K) [] E0 (tCons (tVar 0) (tCons (tVar 1) (tCons (tVar 7) (tCons (tVar 3) (tCons (tVar 4) (tCons (tOp oMod (tCall (sp_law_draw K) [] E0 (tCons (tVar 3) (tCons (tVar 4) (tCons (tC (.int 7)) tNil)))) (tC (.int 4))) tNil))))))))))))
      (D0 Q) [some (.ref p), some (.ref m), some (.ref po), some (.int c), some (.int k), some (.ref ln), some (.int way), none, none] H := by
    intro way
    walk_at "w"
    refine l_filter ps V.str (fun x => !decide (x ∈ w.names)) (.inl (.inl ep)) (by omega) (fun x hx H1 s1 N k1 k0 => ?_) (fun fr H1 nf s1 ef => ?_)
    · have hm1 := hm.up s1
      walk_at "w"
      refine hm1.in_names ?_
      walk_at "w"
      refine if_n (fun c1 => ?_) (fun c1 => ?_)
      · walk_at "w"
        exact k1 _ (Same.refl _) (by rw [decide_eq_false c1]; rfl)
      · exact k0 _ (Same.refl _) (by rw [decide_eq_true c1]; rfl)
    have fin : ∀ x ∈ ps.filter (fun x => !decide (x ∈ w.names)), x ∈ ps ∧ x ∉ w.names := fun x hx => by
      obtain ⟨h1, h2⟩ := List.mem_filter.mp hx
      exact ⟨h1, fun h => by rw [decide_eq_true h] at h2; exact nomatch h2⟩
    have fl6 : 6 ≤ (ps.filter fun x => !decide (x ∈ w.names)).length ∧ (ps.filter fun x => !decide (x ∈ w.names)).length ≤ 22 := by
      refine ⟨?_, by rw [← pl]; exact List.length_filter_le _ _⟩
      have h1 := length_le_of_subset pnd (m := (ps.filter fun x => !decide (x ∈ w.names)) ++ w.names) fun x hx => by
        by_cases c : x ∈ w.names
        · exact List.mem_append_right _ c
        · exact List.mem_append_left _ (List.mem_filter.mpr ⟨hx, by rw [decide_eq_false c]; rfl⟩)
      rw [List.length_append] at h1
      omega
    generalize ps.filter (fun x => !decide (x ∈ w.names)) = fs at ef fin fl6
    have hm1 := hm.up s1
    have hw1 := hw.up s1
    have hd1 := Wd.of ap hw1 hm1
    have nfl : fr ≠ ln := (ne_of_none hm.nm nf).symm
    have last : 2 ≤ w.names.length → ∀ H2, Same H1 H2 → (tRet (tCall (sp_law_point_changed K) [] E0 (tCons (tVar 0) (tCons (tVar 1) (tCons (tVar 7) (tCons (tVar 3) (tCons (tVar 4) (tCons (tOp oMod (tCall (sp_law_draw K) [] E0 (tCons (tVar 3) (tCons (tVar 4) (tCons (tC (.int 7)) tNil)))) (tC (.int 4))) tNil))))))))
        (D0 Q) [some (.ref p), some (.ref m), some (.ref po), some (.int c), some (.int k), some (.ref ln), some (.int way), some (.ref fr), none] H2 := by
      intro n2 H2 s2
      have hm2 := hm1.up s2
      have hw2 := hw1.up s2
      walk_at "w"
      refine ⟨c, k, 7, rfl, k0, k1, by decide, by decide, fun n n0 n1 => ?_⟩
      walk_at "w"
      have nf6 : fr ∉ [p, lc, ld, m, ln, lt] := by
        obtain ⟨dx, hp⟩ := hw.ob
        obtain ⟨_, _, f1, _⟩ := hw.td
        obtain ⟨_, _, f2, _⟩ := hm.td
        have a1 : fr ≠ p := (ne_of_none hp nf).symm
        have a2 : fr ≠ lc := (ne_of_none hw.cr nf).symm
        have a3 : fr ≠ ld := (ne_of_none f1 nf).symm
        have a4 : fr ≠ m := (ne_of_none hm.ob nf).symm
        have a6 : fr ≠ lt := (ne_of_none f2 nf).symm
        simp [a1, a2, a3, a4, nfl, a6]
      refine ⟨p, lc, ld, m, ln, lt, fr, w, fs, c, k, _, rfl, k0, k1, Wd.of ap hw2 hm2, ok, nok, n2, nf6, s2 _ _ ef, (fun e => by rw [e] at fl6; exact absurd fl6.1 (by decide)), fun x hx => ⟨pn x (fin x hx).1, (fin x hx).2⟩, fun w' H3 k3 hd3 ok3 hn hg => ?_⟩
      walk_at "w"
      exact q w' H3 ((Keep.of (s1.trans s2)).trans k3) hd3 ok3 (fun x hx => (hn x hx).elim (hin x) fun h => (fin x h).1) (gl w' hg)
    have ties : 2 ≤ w.names.length → (tSeq (tIfS (tAnd (tTest (tOp oLt (tVar 6) (tC (.int 11)))) (tTest (tOp oLt (tCB cLenD (tCons (tDGet (tVar 1) (tC (.str "ties"))) tNil)) (tC (.int 48))))) (tRet (tCall (sp_law_put_tie K) [] E0 (tCons (tVar 0) (tCons (tVar 1) (tCons (tVar 3) (tCons (tVar 4) tNil)))))) tNext) (tSeq (tIfS (tAnd (tTest (tOp oGt (tOp oMod (tVar 6) (tC (.int 16))) (tC (.int 12)))) (tTest (tOp oNeDK (tDGet (tVar 1) (tC (.str "ties"))) (tDNewK)))) (tRet (tCall (sp_law_tie_changed K) [] E0 (tCons (tVar 0) (tCons (tVar 1) (tCons (tVar 3) (tCons (tVar 4) (tCons (tOp rEq (tOp oMod (tVar 6) (tC (.int 2))) (tC (.int 1))) tNil))))))) tNext) (tRet (tCall (sp_law_point_changed K) [] E0 (tCons (tVar 0) (tCons (tVar 1) (tCons (tVar 7) (tCons (tVar 3) (tCons (tVar 4) (tCons (tOp oMod (tCall (sp_law_draw K) [] E0 (tCons (tVar 3) (tCons (tVar 4) (tCons (tC (.int 7)) tNil)))) (tC (.int 4))) tNil))))))))))
        (D0 Q) [some (.ref p), some (.ref m), some (.ref po), some (.int c), some (.int k), some (.ref ln), some (.int way), some (.ref fr), none] H1 := by
      intro n2
      have chg : (tSeq (tIfS (tAnd (tTest (tOp oGt (tOp oMod (tVar 6) (tC (.int 16))) (tC (.int 12)))) (tTest (tOp oNeDK (tDGet (tVar 1) (tC (.str "ties"))) (tDNewK)))) (tRet (tCall (sp_law_tie_changed K) [] E0 (tCons (tVar 0) (tCons (tVar 1) (tCons (tVar 3) (tCons (tVar 4) (tCons (tOp rEq (tOp oMod (tVar 6) (tC (.int 2))) (tC (.int 1))) tNil))))))) tNext) (tRet (tCall (sp_law_point_changed K) [] E0 (tCons (tVar 0) (tCons (tVar 1) (tCons (tVar 7) (tCons (tVar 3) (tCons (tVar 4) (tCons (tOp oMod (tCall (sp_law_draw K) [] E0 (tCons (tVar 3) (tCons (tVar 4) (tCons (tC (.int 7)) tNil)))) (tC (.int 4))) tNil)))))))))
          (D0 Q) [some (.ref p), some (.ref m), some (.ref po), some (.int c), some (.int k), some (.ref ln), some (.int way), some (.ref fr), none] H1 := by
        walk_at "w"
        refine if_d (fun c1 => ?_) (fun c1 => ?_)
        · walk_at "w"
          refine hm1.g_ties ?_
          walk_at "w"
          refine v_dnew fun d H2 nd s2 ed => ?_
          have hm2 := hm1.up s2
          have hw2 := hw1.up s2
          obtain ⟨ys, y1, y2, y3⟩ := hm2.td
          by_cases tn : w.ties = []
          · rw [tn] at y1
            have y0 := List.map_eq_nil_iff.mp y1
            subst y0
            refine .inl ⟨lt, d, [], [], rfl, rfl, y2, ed, rfl, (fun p hp => nomatch hp), ?_⟩
            walk_at "v"
            walk_at "v"
            walk_at "v"
            walk_at "v"
            walk_at "v"
            walk_at "v"
            exact last n2 H2 s2
          · have yne : ys ≠ [] := fun e => tn (by rw [← y1, e]; rfl)
            refine .inr ⟨lt, d, _, _, rfl, rfl, y2, ed, ?_, ?_⟩
            · cases ys with
              | nil => exact absurd rfl yne
              | cons a l => simp
            walk_at "w"
            refine ⟨p, lc, ld, m, ln, lt, w, c, k, _, rfl, k0, k1, Wd.of ap hw2 hm2, ok, tn, fun w' H3 k3 hd3 ok3 hn hg => ?_⟩
            walk_at "w"
            exact q w' H3 ((Keep.of (s1.trans s2)).trans k3) hd3 ok3 (fun x hx => hin x (by rw [hn] at hx; exact hx)) (gl w' hg)
        · walk_at "v"
          walk_at "v"
          exact last n2 H1 (Same.refl _)
      walk_at "w"
      refine if_d (fun c1 => ?_) (fun c1 => ?_)
      · walk_at "w"
        refine hm1.g_ties ?_
        walk_at "w"
        refine hm1.len_ties ?_
        walk_at "w"
        refine if_d (fun c2 => ?_) (fun c2 => ?_)
        · walk_at "w"
          refine ⟨p, lc, ld, m, ln, lt, w, c, k, rfl, k0, k1, hd1, ok, n2, by omega, fun w' H2 k2 hd2 ok2 hn hg _ => ?_⟩
          walk_at "w"
          exact q w' H2 ((Keep.of s1).trans k2) hd2 ok2 (fun x hx => hin x (by rw [hn] at hx; exact hx)) (by omega)
        · walk_at "v"
          walk_at "v"
          exact chg
      · walk_at "v"
        walk_at "v"
        exact chg
    have put : w.names.length < 16 → ∀ D : Ends, (∀ v H, Q v H → D.rt v H) → (tSeq (tAsg (tOp (rIxL K) (tVar 7) (tOp oMod (tCall (sp_law_draw K) [] E0 (tCons (tVar 3) (tCons (tVar 4) (tCons (tC (.int 1)) tNil)))) (tCB (cLenL K) (tCons (tVar 7) tNil)))) (gName 8)) (tSeq (tDrop (tBM K "list" rAppend (tVar 5) (tCons (tVar 8) tNil))) (tRet (tOp oIsN (tMeth (He.ga K "Web") "put_point" (sp_Web_put_point K) [] E0 (tVar 0) (tCons (tVar 8) tNil)) (tC .non)))))
        D [some (.ref p), some (.ref m), some (.ref po), some (.int c), some (.int k), some (.ref ln), some (.int way), some (.ref fr), none] H1 := by
      intro l16 D hD
      walk_at "w"
      refine ⟨c, k, 1, rfl, k0, k1, by decide, by decide, fun n n0 n1 => ?_⟩
      walk_at "w"
      refine o_mod (by rw [List.length_map]; omega) ?_
      rw [List.length_map]
      refine name_at ef (Int.emod_nonneg _ (by omega)) (Int.emod_lt_of_pos _ (by omega)) fun x hx => ?_
      obtain ⟨hxp, hxn⟩ := fin x (List.mem_of_getElem? hx)
      walk_at "w"
      refine bm_l hm1.nm ?_
      walk_at "w"
      refine app_lo hm1.nm (by rw [List.length_map]; omega) fun H2 o2 e2 => ?_
      have hm2 : ModAt H2 m ln lt { w with names := w.names ++ [x] } := by
        have e : w.names.map V.str ++ [V.str x] = (w.names ++ [x]).map V.str := by rw [List.map_append]; rfl
        rw [e] at e2
        obtain ⟨zs, z1, z2, z3⟩ := hm1.td
        exact ⟨by rw [o2 _ hm1.m_ln]; exact hm1.ob, e2, zs, z1, by rw [o2 _ hm1.lt_ln]; exact z2, fun z hz => by rw [o2 _ (ne_obj (z3 z hz) hm1.nm (by intro e; cases e))]; exact z3 z hz⟩
      have hw2 := web_keep ap hw1 hm1 (keep3 o2.keep (by simp))
      walk_at "w"
      refine ⟨p, lc, ld, w, x, rfl, hw2, pn x hxp, hxn, l16, fun H3 k3 hw3 => ?_⟩
      have k3' : Keep [p, lc, ld] H2 H3 := k1in3 k3 (by simp)
      have hm3 := mod_keep ap hw2 hm2 k3'
      walk_at "w"
      rw [dec_nn]
      refine hD _ _ (q (w.putPoint x) H3 ((Keep.of s1).trans ((keep3 o2.keep (by simp)).trans (up6 k3'))) (Wd.of ap hw3 hm3) (wok_putPoint ok hxn l16) (fun z hz => ?_) (gl _ rfl))
      rcases List.mem_append.mp hz with hz | hz
      · exact hin z hz
      · rw [List.mem_singleton.mp hz]; exact hxp
    walk_at "w"
    refine if_d (fun c1 => ?_) (fun c1 => ?_)
    · walk_at "w"
      refine hm1.len_names ?_
      walk_at "w"
      refine if_d (fun c2 => ?_) (fun c2 => ?_)
      · exact put (by omega) _ fun v H h => h
      · walk_at "v"
        walk_at "v"
        exact ties (by omega)
    · walk_at "w"
      refine hm1.len_names ?_
      walk_at "w"
      refine if_d (fun c2 => ?_) (fun c2 => ?_)
      · walk_at "w"
        refine hm1.len_names ?_
        walk_at "w"
        refine if_d (fun c3 => ?_) (fun c3 => ?_)
        · exact put (by omega) _ fun v H h => h
        · exact absurd c2 (by omega)
      · walk_at "v"
        walk_at "v"
        walk_at "v"
        exact ties (by omega)
  walk_at "w"
  refine hm.g_names ?_
  walk_at "w"
  refine ⟨c, k, 0, rfl, k0, k1, by decide, by decide, fun n n0 n1 => ?_⟩
  walk_at "w"
  refine ix_l (n := 0) ep (v := .str p0) (by rw [List.getElem?_map, hp0]; rfl) ?_
  walk_at "w"
  refine if_d (fun c1 => ?_) (fun c1 => ?_)
  · walk_at "w"
    refine hm.len_names ?_
    walk_at "w"
    refine if_d (fun c2 => ?_) (fun c2 => ?_)
    · walk_at "v"
      walk_at "v"
      walk_at "v"
      walk_at "v"
      exact rest 5
    · walk_at "v"
      walk_at "v"
      exact rest _
  · walk_at "v"
    walk_at "v"
    exact rest _
section
variable {K : PySem.W.Frag} {H H' : Hp} {Q : VK} {a b p : Addr} {x y : V} {σ : L2.St} {g : TG} {t : TT} {te : TE} {β : Type}
/-- a comprehension over a tuple -/
theorem l_tup {vs : List Nat} (ys : List β) (enc : β → V) (f : β → Option V) (hx : H p = some (.tup (ys.map enc))) (hn : ys.length ≤ 100000)
    (turn : ∀ y ∈ ys, ∀ H', Same H H' → ∀ N : Option V → Hp → Prop, (∀ H3, Same H' H3 → N (f y) H3) → Turn g t te vs σ (enc y) H' N)
    (fin : ∀ d H', H d = none → Same H H' → H' d = some (.lst (ys.filterMap f)) → Q (.ref d) H') : ItT K (.ref p) H fun J H1 => LcK J g t te vs σ H1 Q := by
  refine ⟨p, rfl, ⟨_, .inl (.inl hx)⟩, fun d hd => lcG ys.length hn hd (fun i acc _ => acc = (ys.take i).filterMap f) rfl (fun _ _ _ _ _ h => h) (fun i H' hi s => ⟨ys.map enc, _, .inl (.inl (s _ _ hx)), by rw [List.getElem?_map, List.getElem?_eq_getElem hi]; rfl⟩)
    (fun H' s => ⟨ys.map enc, .inl (.inl (s _ _ hx)), by simp⟩) (fun i acc H' hi s p e x H2 y N k => ?_) fun acc H' s e p => ?_⟩
  · obtain ⟨rfl, y⟩ := y
    have e1 : ys[i]? = some ys[i] := List.getElem?_eq_getElem hi
    have e2 := y (ys.map enc) (.inl (.inl (s _ _ hx)))
    rw [List.getElem?_map, e1] at e2
    cases e2
    refine turn ys[i] (List.getElem_mem hi) _ s N fun H3 s3 => k _ H3 s3 ?_
    rw [p, take_snoc e1, List.filterMap_append, List.filterMap_cons]
    cases f ys[i] <;> rfl
  · subst p
    refine fin d H' hd s ?_
    rw [e, List.take_of_length_le (Nat.le_refl _)]
theorem catT {xs ys : List V} (h1 : H a = some (.tup xs)) (h2 : H b = some (.tup ys)) (n1 : xs ≠ []) (n2 : ys ≠ []) (l : xs.length + ys.length ≤ 100000) (q : ∀ l H', H l = none → Same H H' → H' l = some (.tup (xs ++ ys)) → Q (.ref l) H') : rCatT K (.ref a) (.ref b) H Q :=
  ⟨a, b, xs, ys, rfl, rfl, .inl (.inl h1), .inl (.inl h2), n1, sz l, fun e => absurd e n2, fun _ => al q⟩
theorem ix_last {xs : List V} {v : V} (h : H p = some (.lst (xs ++ [v]))) (q : Q v H) : rIxL K (.ref p) (.int (-1)) H Q := by
  refine ⟨p, _, -1, v, rfl, rfl, .inl (.inl h), ?_, q⟩
  have e : ixN (xs ++ [v]).length (-1) = some xs.length := by
    unfold ixN
    rw [if_neg (by decide), List.length_append, List.length_singleton, if_pos (by omega)]
    congr 1
    omega
  unfold atI
  rw [e]
  simp
def rowD (t : Tr) : PyData := .tuple [.int t.num, .str t.tl, .str t.hd, .int t.load, .bool t.ow]
theorem dp_row {t : Tr} (h : H a = some (.tup (rowT t))) : Dp K H (.ref a) (rowD t) := .tup (.inl (.inl h)) (.cons (.int _) (.cons (.str _) (.cons (.str _) (.cons (.int _) (.cons (.bl _) .nil)))))
theorem dp_rows {ts : List Tr} (h : RowsL H a ts) : Dp K H (.ref a) (.list (ts.map rowD)) := by
  obtain ⟨ys, y1, y2, y3⟩ := h
  rw [← y1, List.map_map]
  exact .lst (.inl (.inl y2)) (dpAll_map ys fun y hy => dp_row (y3 y hy))
theorem sh_rows {ts : List Tr} (h : ∀ t ∈ ts, okName t.tl ∧ okName t.hd) : Sh 2 (.list (ts.map rowD)) := sh_list fun d hd => by
  obtain ⟨t, ht, rfl⟩ := List.mem_map.mp hd
  obtain ⟨h1, h2⟩ := h t ht
  refine sh_tup fun e he => ?_
  simp only [List.mem_cons, List.not_mem_nil, or_false] at he
  rcases he with rfl | rfl | rfl | rfl | rfl
  · exact sh_int _
  · exact sh_name h1
  · exact sh_name h2
  · exact sh_int _
  · exact sh_bool _
theorem RowsL.up {ts : List Tr} (h : RowsL H a ts) (s : Same H H') : RowsL H' a ts := let ⟨ys, h1, h2, h3⟩ := h; ⟨ys, h1, s _ _ h2, fun y hy => s _ _ (h3 y hy)⟩
end
theorem st_law_row (a0 : V) : L2.start n_law_row [a0] = [some a0, none, none] := rfl
theorem pure_law_row {w : World} {K : PySem.W.Frag} {mg : Str → Option Value} (T : Tx w K mg) (vs : List V) (H : Hp) (Q : VK) (E : XK) (h : sp_law_row K vs H Q E) : t_law_row K { nx := fun _ H' => Q .non H', rt := Q } (start n_law_row vs) H := by
  show t_law_row K (D0 Q) (start n_law_row vs) H
  unfold t_law_row
  obtain ⟨p, t, rfl, ht, q⟩ := h
  rw [st_law_row]
  walk_at "w"
  refine new_l (by simp) fun r H1 nr s1 er => ?_
  walk_at "w"
  refine ix_t (n := 0) er rfl ?_
  walk_at "w"
  refine ix_t (n := 3) er rfl ?_
  walk_at "w"
  refine new_l (by simp) fun a H2 na s2 ea => ?_
  refine l_tup [t.num, t.load] V.int (fun _ => none) ea (by simp) (fun i hi H3 s3 N k => ?_) (fun d H3 nd s3 ed => ?_)
  · walk_at "w"
    exact k _ (Same.refl _)
  · have ed' : H3 d = some (.lst (([] : List Int).map V.int)) := ed
    walk_at "w"
    refine new_l (by simp) fun e H4 ne s4 ee => ?_
    refine neD_ints (ms := []) (s4 _ _ ed') ee ?_
    rw [decide_eq_true rfl]
    have er4 := (s2.trans (s3.trans s4)) _ _ er
    walk_at "w"
    refine ix_t (n := 1) er4 rfl ?_
    walk_at "w"
    refine ix_t (n := 2) er4 rfl ?_
    walk_at "w"
    refine ix_t (n := 4) er4 rfl ?_
    walk_at "w"
    exact q r H4 nr (s1.trans (s2.trans (s3.trans s4))) er4
theorem st_law_rows (a0 : V) : L2.start n_law_rows [a0] = [some a0, none] := rfl
theorem pure_law_rows {w : World} {K : PySem.W.Frag} {mg : Str → Option Value} (T : Tx w K mg) (vs : List V) (H : Hp) (Q : VK) (E : XK) (h : sp_law_rows K vs H Q E) : t_law_rows K { nx := fun _ H' => Q .non H', rt := Q } (start n_law_rows vs) H := by
  show t_law_rows K (D0 Q) (start n_law_rows vs) H
  unfold t_law_rows
  obtain ⟨m, ln, lt, w, rfl, hm, srt, tl, q⟩ := h
  rw [st_law_rows]
  walk_at "w"
  refine hm.g_ties ?_
  walk_at "w"
  refine hm.sorted srt tl fun a H1 na s1 ea => ?_
  walk_at "w"
  refine l_listR w.ties (fun t => V.int t.num) (fun t q H' => H' q = some (.tup (rowT t))) (.inl (.inl ea)) (by omega) (fun t q A B s h => s _ _ h) (fun t ht H2 s2 N k => ?_) (fun d zs H2 nd s2 ez ed hz => ?_)
  · have hm2 := hm.up (s1.trans s2)
    walk_at "w"
    refine new_l (by simp) fun b H3 nb s3 eb => ?_
    have hm3 := hm2.up s3
    walk_at "w"
    refine hm3.g_ties ?_
    walk_at "w"
    refine hm3.get_tie srt ht fun c hc => ?_
    refine catT eb hc (by simp) (by simp [tupT]) (by simp [tupT]) fun e H4 ne s4 ee => ?_
    refine k e H4 (s3.free ne) (s3.trans s4) fun d nd _ => ?_
    rw [del_ne nd]
    exact ee
  · walk_at "w"
    exact q d H2 (s1.free nd) (s1.trans s2) ⟨zs, ez, ed, fun z hzm => (hz z hzm).2⟩
theorem st_law_stands (a0 a1 : V) : L2.start n_law_stands [a0, a1] = [some a0, some a1, none, none] := rfl
theorem pure_law_stands {w : World} {K : PySem.W.Frag} {mg : Str → Option Value} (T : Tx w K mg) (vs : List V) (H : Hp) (Q : VK) (E : XK) (h : sp_law_stands K vs H Q E) : t_law_stands K { nx := fun _ H' => Q .non H', rt := Q } (start n_law_stands vs) H := by
  show t_law_stands K (D0 Q) (start n_law_stands vs) H
  unfold t_law_stands
  obtain ⟨p, lc, ld, m, ln, lt, w, rfl, hd, ok, nok, q⟩ := h
  rw [st_law_stands]
  have hw := hd.web
  have hm := hd.mod
  walk_at "w"
  refine ⟨p, lc, ld, w, rfl, hw, ok.tlen, ok.srt, fun l H1 n1 s1 ⟨ys, y1, y2, y3⟩ => ?_⟩
  have yl : ys.length ≤ 48 := by have := ok.tlen; rw [← y1, List.length_map] at this; exact this
  refine l_listR ys (fun y => V.ref y.1) (fun y q H' => H' q = some (.tup (rowT y.2))) (.inl (.inl y2)) (by omega) (fun t q A B s h => s _ _ h) (fun y hy H2 s2 N k => ?_) (fun d zs H2 nd s2 ez ed hz => ?_)
  · have ht := (y3 y hy).up s2
    walk_at "w"
    refine ⟨y.1, y.2, rfl, ht, fun e H3 ne s3 ee => ?_⟩
    refine k e H3 ne s3 fun d nd _ => ?_
    rw [del_ne nd]
    exact ee
  · have hr : RowsL H2 d w.ties := ⟨zs.map fun z => (z.1, z.2.2), by rw [← y1, ← ez, List.map_map, List.map_map]; rfl, by rw [ed, List.map_map]; rfl, fun z hzm => by
      obtain ⟨u, hu, rfl⟩ := List.mem_map.mp hzm
      exact (hz u hu).2⟩
    have hw2 := hw.up (s1.trans s2)
    have hm2 := hm.up (s1.trans s2)
    walk_at "w"
    refine ⟨p, lc, ld, w, rfl, hw2, fun l3 H3 n3 s3 e3 => ?_⟩
    have hm3 := hm2.up s3
    walk_at "w"
    refine hm3.g_names ?_
    refine neD_same (dp_strs e3) (dp_strs hm3.nm) (sh_names nok) (by decide) ?_
    walk_at "w"
    refine ⟨m, ln, lt, w, rfl, hm3, ok.srt, ok.tlen, fun r H4 nr s4 er => ?_⟩
    refine neD_same (dp_rows (hr.up (s3.trans s4))) (dp_rows er) (sh_rows fun t ht => ⟨nok _ (ok.tie t ht).tl, nok _ (ok.tie t ht).hd⟩) (by decide) ?_
    have hw4 := hw2.up (s3.trans s4)
    have hm4 := hm3.up s4
    walk_at "w"
    refine ⟨p, lc, ld, w, rfl, hw4, ?_⟩
    walk_at "w"
    refine hm4.g_given ?_
    walk_at "w"
    refine ⟨w.given, rfl, ?_⟩
    walk_at "w"
    exact q H4 (((s1.trans s2).trans s3).trans s4)
theorem st_law_none : L2.start n_law_none [] = [] := rfl
theorem pure_law_none {w : World} {K : PySem.W.Frag} {mg : Str → Option Value} (T : Tx w K mg) (vs : List V) (H : Hp) (Q : VK) (E : XK) (h : sp_law_none K vs H Q E) : t_law_none K { nx := fun _ H' => Q .non H', rt := Q } (start n_law_none vs) H := by
  show t_law_none K (D0 Q) (start n_law_none vs) H
  unfold t_law_none
  obtain ⟨rfl, q⟩ := h
  rw [st_law_none]
  walk_at "w"
  refine v_disp fun m H1 nm s1 em => ?_
  refine v_pc ?_
  walk_at "w"
  refine new_l (by simp) fun ln H2 nn s2 en => ?_
  refine v_pc ?_
  walk_at "w"
  refine v_dnew fun lt H3 nt s3 et => ?_
  refine v_pc ?_
  walk_at "w"
  refine v_pn ?_
  refine disp_r [(.inr "names", .ref ln), (.inr "ties", .ref lt), (.inr "given", .int 0)] rfl (s3 _ _ (s2 _ _ em)) (by simp) fun H4 o4 e4 => ?_
  have a1 : ln ≠ m := (ne_of_none em nn).symm
  have a2 : lt ≠ m := (ne_of_none (s2 _ _ em) nt).symm
  have e4' : H4 m = some (.dK [(.inr "names", .ref ln), (.inr "ties", .ref lt), (.inr "given", .int 0)]) := by
    rw [e4]
    congr 2
  walk_at "w"
  refine q m ln lt H4 nm (s1.free nn) ((s1.trans s2).free nt) (o4.same ((s1.trans s2).trans s3) nm) ⟨e4', by rw [o4 _ a1]; exact s3 _ _ en, [], rfl, by rw [o4 _ a2]; exact et, fun y hy => nomatch hy⟩ a2.symm
theorem st_law_trees (a0 a1 : V) : L2.start n_law_trees [a0, a1] = [some a0, some a1, none, none, none, none, none] := rfl
theorem pure_law_trees {w : World} {K : PySem.W.Frag} {mg : Str → Option Value} (T : Tx w K mg) (vs : List V) (H : Hp) (Q : VK) (E : XK) (h : sp_law_trees K vs H Q E) : t_law_trees K { nx := fun _ H' => Q .non H', rt := Q } (start n_law_trees vs) H := by
  show t_law_trees K (D0 Q) (start n_law_trees vs) H
  unfold t_law_trees
  obtain ⟨m, ln, lt, l, w, ts, rfl, hm, ok, el, tl, tin, q⟩ := h
  rw [st_law_trees]
  have nl := ok.len
  walk_at "w"
  refine v_dnew fun rd H1 n1 s1 ed => ?_
  have hm1 := hm.up s1
  walk_at "w"
  refine hm1.g_names ?_
  let P : List Str → L2.St → Hp → Prop := fun done σ H' => (∃ o, σ = [some (.ref m), some (.ref l), some (.ref rd), o, none, none, none]) ∧ Same H H' ∧ DSS H' rd done id
  refine f_list w.names V.str P (.inl (.inl hm1.nm)) ⟨⟨none, rfl⟩, s1, ed⟩ (fun _ _ _ H' _ h => .inl (.inl (hm.up h.2.1).nm)) (fun done n rest σ H' ey h => ?_) (fun σ H' h => ?_)
  · obtain ⟨⟨o, rfl⟩, s3, hd⟩ := h
    have nn : n ∉ done := by
      have := ok.nd
      rw [ey] at this
      exact fun h => (List.nodup_append.mp this).2.2 n h n List.mem_cons_self rfl
    have dl := congrArg List.length ey
    rw [List.length_append] at dl
    walk_at "w"
    refine hd.put_new (by omega) nn rfl fun H4 o4 hd4 => ?_
    walk_at "w"
    exact ⟨⟨_, rfl⟩, o4.same s3 n1, hd4⟩
  · obtain ⟨⟨o, rfl⟩, s3, hd⟩ := h
    walk_at "w"
    let P2 : List Tr → L2.St → Hp → Prop := fun done σ H' => (∃ o3 o4 o5 o6, σ = [some (.ref m), some (.ref l), some (.ref rd), o3, o4, o5, o6]) ∧ Same H H' ∧ DSS H' rd w.names (rootsF done)
    refine f_list ts (fun t => V.int t.num) P2 (.inl (.inl (s3 _ _ el))) ⟨⟨_, _, _, _, rfl⟩, s3, hd⟩ (fun _ _ _ H' _ h => .inl (.inl (h.2.1 _ _ el))) (fun done t rest σ H5 ey h => ?_) (fun σ H5 h => ?_)
    · obtain ⟨⟨o3, o4, o5, o6, rfl⟩, s5, hd5⟩ := h
      have ht : t ∈ w.ties := tin t (by rw [ey]; simp)
      have tk := ok.tie t ht
      have hm5 := hm.up s5
      have hsn : rootsF (done ++ [t]) = rootStep (rootsF done) t := rootsF_snoc done t
      generalize hr : rootsF done = r at hd5 hsn
      walk_at "w"
      refine hm5.g_ties ?_
      walk_at "w"
      refine hm5.get_tie ok.srt ht fun b hb => ?_
      walk_at "w"
      refine cut2 hb fun c H6 nc s6 ec => ?_
      have hd6 : DSS H6 rd w.names r := s6 _ _ hd5
      refine l_tup [t.tl, t.hd] V.str (fun x => some (.str (r x))) ec (by simp) (fun x hx H7 s7 N k => ?_) (fun d H7 nd s7 ed => ?_)
      · have hxn : x ∈ w.names := by
          simp only [List.mem_cons, List.not_mem_nil, or_false] at hx
          rcases hx with rfl | rfl
          · exact tk.tl
          · exact tk.hd
        have hd7 : DSS H7 rd w.names r := s7 _ _ hd6
        walk_at "w"
        refine hd7.get ok.nd hxn ?_
        exact k _ (Same.refl _)
      · have hd7 : DSS H7 rd w.names r := s7 _ _ hd6
        have ed' : H7 d = some (.lst [.str (r t.tl), .str (r t.hd)]) := ed
        have sm7 := s5.trans (s6.trans s7)
        have hm7 := hm.up sm7
        walk_at "w"
        refine g_unl ed' rfl ?_
        walk_at "w"
        refine hm7.g_names ?_
        let P3 : List Str → L2.St → Hp → Prop := fun done2 σ H' => (∃ o3, σ = [some (.ref m), some (.ref l), some (.ref rd), o3, some (.int t.num), some (.str (r t.tl)), some (.str (r t.hd))]) ∧ Same H H' ∧ DSS H' rd w.names (fun x => if x ∈ done2 ∧ r x = r t.hd then r t.tl else r x)
        refine f_list w.names V.str P3 (.inl (.inl hm7.nm)) ⟨⟨_, rfl⟩, sm7, hd7.congr fun x _ => ?_⟩ (fun _ _ _ H' _ h => .inl (.inl (hm.up h.2.1).nm)) (fun done2 n rest2 σ H8 ey2 h => ?_) (fun σ H8 h => ?_)
        · rw [if_neg fun h => nomatch h.1]
        · obtain ⟨⟨o3, rfl⟩, s8, hd8⟩ := h
          have hn : n ∈ w.names := by rw [ey2]; simp
          have nn : n ∉ done2 := by
            have := ok.nd
            rw [ey2] at this
            exact fun h => (List.nodup_append.mp this).2.2 n h n List.mem_cons_self rfl
          walk_at "w"
          refine hd8.get ok.nd hn ?_
          rw [if_neg fun h => nn h.1]
          walk_at "w"
          have mem : ∀ x, x ∈ done2 ++ [n] ↔ x ∈ done2 ∨ x = n := fun x => by rw [List.mem_append, List.mem_singleton]
          refine if_d (fun c1 => ?_) (fun c1 => ?_)
          · walk_at "w"
            refine hd8.put (by omega) hn fun H9 o9 hd9 => ?_
            walk_at "w"
            refine ⟨⟨_, rfl⟩, o9.same s8 n1, hd9.congr fun x _ => ?_⟩
            by_cases c2 : x = n
            · rw [if_pos c2, if_pos ⟨(mem x).mpr (.inr c2), by rw [c2]; exact c1⟩]
            · rw [if_neg c2]
              by_cases c3 : x ∈ done2 ∧ r x = r t.hd
              · rw [if_pos c3, if_pos ⟨(mem x).mpr (.inl c3.1), c3.2⟩]
              · rw [if_neg c3, if_neg fun h => c3 ⟨((mem x).mp h.1).elim id fun e => absurd e c2, h.2⟩]
          · walk_at "w"
            refine ⟨⟨_, rfl⟩, s8, hd8.congr fun x _ => ?_⟩
            by_cases c3 : x ∈ done2 ∧ r x = r t.hd
            · rw [if_pos c3, if_pos ⟨(mem x).mpr (.inl c3.1), c3.2⟩]
            · rw [if_neg c3, if_neg fun h => ((mem x).mp h.1).elim (fun h1 => c3 ⟨h1, h.2⟩) fun e => c1 (by rw [← e]; exact h.2)]
        · obtain ⟨⟨o3, rfl⟩, s8, hd8⟩ := h
          walk_at "w"
          refine ⟨⟨_, _, _, _, rfl⟩, s8, ?_⟩
          rw [hsn]
          refine hd8.congr fun x hx => ?_
          show _ = if r x = r t.hd then r t.tl else r x
          by_cases c1 : r x = r t.hd
          · rw [if_pos c1, if_pos ⟨hx, c1⟩]
          · rw [if_neg c1, if_neg fun h => c1 h.2]
    · obtain ⟨⟨o3, o4, o5, o6, rfl⟩, s5, hd5⟩ := h
      walk_at "w"
      exact q rd H5 n1 s5 hd5
theorem st_law_pieces (a0 : V) : L2.start n_law_pieces [a0] = [some a0, none, none, none, none, none] := rfl
theorem pure_law_pieces {w : World} {K : PySem.W.Frag} {mg : Str → Option Value} (T : Tx w K mg) (vs : List V) (H : Hp) (Q : VK) (E : XK) (h : sp_law_pieces K vs H Q E) : t_law_pieces K { nx := fun _ H' => Q .non H', rt := Q } (start n_law_pieces vs) H := by
  show t_law_pieces K (D0 Q) (start n_law_pieces vs) H
  unfold t_law_pieces
  obtain ⟨m, ln, lt, w, rfl, hm, ok, nok, q⟩ := h
  rw [st_law_pieces]
  have nl := ok.len
  walk_at "w"
  refine hm.g_ties ?_
  walk_at "w"
  refine hm.sorted ok.srt ok.tlen fun so H1 nso s1 eso => ?_
  have hm1 := hm.up s1
  walk_at "w"
  refine ⟨m, ln, lt, so, w, w.ties, rfl, hm1, ok, eso, ok.tlen, fun t ht => ht, fun rd H2 nrd s2 hrd => ?_⟩
  walk_at "w"
  refine new_l (by simp) fun fl H3 nf s3 ef => ?_
  have sm3 := (s1.trans s2).trans s3
  have nf' : H fl = none := (s1.trans s2).free nf
  have hm3 := hm.up sm3
  have rdf : rd ≠ fl := ne_of_none hrd nf
  walk_at "w"
  refine hm3.g_names ?_
  let P : List Str → L2.St → Hp → Prop := fun done σ H' => (∃ o3 o4 o5, σ = [some (.ref m), some (.ref rd), some (.ref fl), o3, o4, o5]) ∧ Keep [fl] H3 H' ∧ ∃ ys, LLS H H' fl (done.foldl (pcsStep w.ties w.names) []) ys
  have frS : ∀ {H'}, Keep [fl] H3 H' → Same H H' := fun k c o h => k c o (by rw [List.mem_singleton]; exact ne_of_none h nf') (sm3 _ _ h)
  refine f_list w.names V.str P (.inl (.inl hm3.nm)) ⟨⟨_, _, _, rfl⟩, Keep.refl _ _, [], rfl, ef, fun y hy => (nomatch hy), fun y hy => (nomatch hy)⟩ (fun _ _ _ H' _ h => .inl (.inl (hm.up (frS h.2.1)).nm)) (fun done n rest σ H4 ey h => ?_) (fun σ H4 h => ?_)
  · obtain ⟨⟨o3, o4, o5, rfl⟩, k4, ys, hys⟩ := h
    have s4 := frS k4
    have hm4 := hm.up s4
    have hrd4 : DSS H4 rd w.names (rootsF w.ties) := k4 _ _ (by rw [List.mem_singleton]; exact rdf) (s3 _ _ hrd)
    have hn : n ∈ w.names := by rw [ey]; simp
    have yl : ys.length ≤ 16 := by
      have := pcs_len w.ties w.names done []
      rw [← hys.eq, List.length_map] at this
      have dl := congrArg List.length ey
      rw [List.length_append] at dl
      simp at this
      omega
    walk_at "w"
    refine hm4.g_names ?_
    refine l_filter w.names V.str (fun x => decide (rootsF w.ties x = rootsF w.ties n)) (.inl (.inl hm4.nm)) (by omega) (fun x hx H5 s5 N k1 k0 => ?_) (fun c H5 nc s5 ec => ?_)
    · have hrd5 : DSS H5 rd w.names (rootsF w.ties) := s5 _ _ hrd4
      walk_at "w"
      refine hrd5.get ok.nd hx ?_
      walk_at "w"
      refine hrd5.get ok.nd hn ?_
      walk_at "w"
      refine if_d (fun c => ?_) (fun c => ?_)
      · walk_at "w"
        exact k1 _ (Same.refl _) (decide_eq_true c)
      · exact k0 _ (Same.refl _) (decide_eq_false c)
    · have ec : H5 c = some (.lst ((clsF w.ties w.names n).map V.str)) := ec
      have hys5 := hys.up s5
      have xok : ∀ xs ∈ done.foldl (pcsStep w.ties w.names) [], ∀ x ∈ xs, okName x := by
        intro xs hxs x hx
        rcases (mem_pcs done []).mp hxs with h | ⟨y, _, rfl⟩
        · exact nomatch h
        · exact nok x (mem_clsF.mp hx).1
      walk_at "w"
      refine ⟨.list ((clsF w.ties w.names n).map PyData.str), (done.foldl (pcsStep w.ties w.names) []).map fun xs => .list (xs.map PyData.str), dp_strs ec, ?_, ?_, ?_, ?_⟩
      · rw [← hys.eq, List.map_map]
        exact .lst (.inl (.inl hys5.ls)) (dpAll_map ys fun y hy => dp_strs (hys5.it y hy))
      · exact (sh_names fun x hx => nok x (mem_clsF.mp hx).1).shaped
      · refine (sh_list (k := 1) fun d hd => ?_).shaped
        obtain ⟨xs, hxs, rfl⟩ := List.mem_map.mp hd
        exact sh_names (xok xs hxs)
      · have e : ((done.foldl (pcsStep w.ties w.names) []).map fun xs => PyData.list (xs.map PyData.str)).any (fun z => PyData.eqv z (.list ((clsF w.ties w.names n).map PyData.str))) = decide (clsF w.ties w.names n ∈ done.foldl (pcsStep w.ties w.names) []) := (PySem.W.any_datum (α := List Str) (done.foldl (pcsStep w.ties w.names) []) (clsF w.ties w.names n)).trans (decide_eq_decide.mpr Iff.rfl)
        rw [e]
        walk_at "w"
        have fold1 : (done ++ [n]).foldl (pcsStep w.ties w.names) [] = pcsStep w.ties w.names (done.foldl (pcsStep w.ties w.names) []) n := by rw [List.foldl_append]; rfl
        refine if_n (fun c1 => ?_) (fun c1 => ?_)
        · rw [show pcsStep w.ties w.names (done.foldl (pcsStep w.ties w.names) []) n = done.foldl (pcsStep w.ties w.names) [] ++ [clsF w.ties w.names n] from if_neg c1] at fold1
          walk_at "w"
          refine bm_l hys5.ls ?_
          walk_at "w"
          refine app_lo hys5.ls (by rw [List.length_map]; omega) fun H6 o6 e6 => ?_
          walk_at "w"
          refine ⟨⟨_, _, _, rfl⟩, (k4.trans (Keep.of s5)).trans o6.keep, ys ++ [(c, clsF w.ties w.names n)], ?_, ?_, ?_, ?_⟩
          · rw [fold1, List.map_append, hys.eq]
            rfl
          · rw [e6, List.map_append]
            rfl
          · intro y hy
            rcases List.mem_append.mp hy with hy | hy
            · exact hys.own y hy
            · rw [List.mem_singleton.mp hy]; exact s4.free nc
          · intro y hy
            rcases List.mem_append.mp hy with hy | hy
            · have : y.1 ≠ fl := fun c2 => by
                have := hys.it y hy
                rw [c2, hys.ls] at this
                have h3 := congrArg (fun o : Option HO => match o with | some (.lst xs) => xs | _ => []) this
                have hm : V.ref y.1 ∈ ys.map (fun y => V.ref y.1) := List.mem_map_of_mem (f := fun y : Addr × List Str => V.ref y.1) hy
                rw [show ys.map (fun y => V.ref y.1) = y.2.map V.str from h3] at hm
                obtain ⟨_, _, e⟩ := List.mem_map.mp hm
                exact nomatch e
              rw [o6 _ this]
              exact hys5.it y hy
            · rw [List.mem_singleton.mp hy, o6 _ (ne_of_none hys.ls nc).symm]
              exact ec
        · rw [show pcsStep w.ties w.names (done.foldl (pcsStep w.ties w.names) []) n = done.foldl (pcsStep w.ties w.names) [] from if_pos c1] at fold1
          walk_at "w"
          exact ⟨⟨_, _, _, rfl⟩, k4.trans (Keep.of s5), ys, by rw [fold1]; exact hys5⟩
  · obtain ⟨⟨o3, o4, o5, rfl⟩, k4, ys, hys⟩ := h
    walk_at "w"
    exact q fl H4 nf' (frS k4) ⟨ys, hys.eq, hys.ls, hys.it⟩
theorem st_law_gone (a0 a1 a2 : V) : L2.start n_law_gone [a0, a1, a2] = [some a0, some a1, some a2, none, none, none] := rfl
theorem pure_law_gone {w : World} {K : PySem.W.Frag} {mg : Str → Option Value} (T : Tx w K mg) (vs : List V) (H : Hp) (Q : VK) (E : XK) (h : sp_law_gone K vs H Q E) : t_law_gone K { nx := fun _ H' => Q .non H', rt := Q } (start n_law_gone vs) H := by
  show t_law_gone K (D0 Q) (start n_law_gone vs) H
  unfold t_law_gone
  obtain ⟨m, ln, lt, l, w, ns, a, b, rfl, hm, ok, el, nl, hgo, q⟩ := h
  rw [st_law_gone]
  walk_at "w"
  refine new_l (by simp) fun rl H1 nr s1 er => ?_
  walk_at "w"
  let P : List Int → L2.St → Hp → Prop := fun done σ H' => (∃ o4 o5, σ = [some (.ref m), some (.ref l), some (.str a), some (.ref rl), o4, o5]) ∧ Same H H' ∧ ∃ (xs : List Str) (x : Str), H' rl = some (.lst ((xs ++ [x]).map V.str)) ∧ xs.length = done.length ∧ Go w.ties x (ns.drop done.length) b
  refine f_list ns V.int P (.inl (.inl (s1 _ _ el))) ⟨⟨_, _, rfl⟩, s1, [], a, er, rfl, hgo⟩ (fun _ _ _ H' _ h => .inl (.inl (h.2.1 _ _ el))) (fun done n rest σ H2 ey h => ?_) (fun σ H2 h => ?_)
  · obtain ⟨⟨o4, o5, rfl⟩, s2, xs, x, ex, xl, go⟩ := h
    obtain ⟨ed, ed2⟩ := drop_at ey
    rw [ed] at go
    obtain ⟨t, ht, rfl, hgo⟩ := go
    have tk := ok.tie t ht
    have hm2 := hm.up s2
    have dl : done.length ≤ 100 := by
      have := congrArg List.length ey
      rw [List.length_append] at this
      omega
    have hx : x ∈ [t.tl, t.hd] := by rcases hgo with ⟨h, _⟩ | ⟨h, _⟩ <;> simp [h]
    walk_at "w"
    refine hm2.g_ties ?_
    refine hm2.in_ties ?_
    walk_at "w"
    refine if_bF (by rw [decide_eq_true (List.mem_map_of_mem (f := fun t : Tr => t.num) ht)]; rfl) ?_
    rw [List.map_append] at ex
    walk_at "w"
    refine u_int ?_
    refine ix_last ex ?_
    walk_at "w"
    refine hm2.g_ties ?_
    walk_at "w"
    refine hm2.get_tie ok.srt ht fun c hc => ?_
    walk_at "w"
    refine cut2 hc fun d H3 nd s3 ed => ?_
    refine in_ends ed ?_
    walk_at "w"
    refine if_nF hx ?_
    have hm3 := hm2.up s3
    walk_at "w"
    refine hm3.g_ties ?_
    walk_at "w"
    refine hm3.get_tie ok.srt ht fun e he => ?_
    walk_at "w"
    refine cut2 he fun f H4 nf s4 ef => ?_
    have ex4 := (s3.trans s4) _ _ ex
    have sm4 := s2.trans (s3.trans s4)
    have fin : ∀ (z : Str) (D : Hp → Prop), Go w.ties z rest b → (∀ H5 xs', Same H H5 → H5 rl = some (.lst ((xs' ++ [z]).map V.str)) → xs'.length = done.length + 1 → D H5) → D (upd H4 rl (.lst ((xs.map V.str ++ [V.str x]) ++ [V.str z]))) := by
      intro z D gz hz
      refine hz _ (xs ++ [x]) (Only.upd.same sm4 nr) ?_ (by rw [List.length_append, List.length_singleton, xl])
      rw [upd_same, List.map_append, List.map_append]
      rfl
    have lx : ((xs.map V.str) ++ [V.str x]).length ≤ 100000 := by rw [List.length_append, List.length_map, List.length_singleton]; omega
    walk_at "w"
    refine ix_t (n := 0) ef rfl ?_
    walk_at "w"
    refine u_int ?_
    refine ix_last ex4 ?_
    walk_at "w"
    refine if_d (fun c1 => ?_) (fun c1 => ?_)
    · have g1 : Go w.ties t.hd rest b := by
        rcases hgo with ⟨_, h⟩ | ⟨h, _⟩
        · exact h
        · exact absurd (c1.trans h.symm) tk.ne
      walk_at "w"
      refine ix_t (n := 1) ef rfl ?_
      walk_at "w"
      refine app_l ex4 lx ?_
      walk_at "w"
      exact fin t.hd _ g1 fun H5 xs' s5 e5 l5 => ⟨⟨_, _, rfl⟩, s5, xs', t.hd, e5, by rw [List.length_append]; exact l5, by rw [ed2]; exact g1⟩
    · have g1 : Go w.ties t.tl rest b := by
        rcases hgo with ⟨h, _⟩ | ⟨_, h⟩
        · exact absurd h c1
        · exact h
      walk_at "w"
      refine ix_t (n := 0) ef rfl ?_
      walk_at "w"
      refine app_l ex4 lx ?_
      walk_at "w"
      exact fin t.tl _ g1 fun H5 xs' s5 e5 l5 => ⟨⟨_, _, rfl⟩, s5, xs', t.tl, e5, by rw [List.length_append]; exact l5, by rw [ed2]; exact g1⟩
  · obtain ⟨⟨o4, o5, rfl⟩, s2, xs, x, ex, xl, go⟩ := h
    rw [List.drop_length] at go
    have go : x = b := go
    subst go
    walk_at "w"
    exact q rl xs H2 nr s2 ex
section
variable {K : PySem.W.Frag} {H H' : Hp} {Q : VK} {a b p : Addr} {x y : V} {σ : L2.St} {te : TE}
def RevR (K : PySem.W.Frag) (x : V) (H : Hp) (Q : VK) : Prop := ∃ a xs, x = .ref a ∧ SqL K H a xs ∧ ∀ p, H p = none → Q (.ref p) (upd H p (.lst xs.reverse))
theorem v_rev (h : te σ H fun x H1 => RevR K x H1 Q) : tRevL K te σ H Q := h
theorem rev_l {xs : List V} (h : H a = some (.lst xs)) (q : ∀ p H', H p = none → Same H H' → H' p = some (.lst xs.reverse) → Q (.ref p) H') : RevR K (.ref a) H Q := ⟨a, xs, rfl, .inl (.inl h), al q⟩
end
/-- a tie turned as the law turns it -/
def bitF (n : Int) (k : Nat) : Int := n / (1 * 2 ^ ((k : Int) % 20).toNat) % 4
def tnT (n y : Int) (k : Nat) (t : Tr) : Tr := ⟨t.num, if y = 0 ∧ 1 < bitF n k then t.hd else t.tl, if y = 0 ∧ 1 < bitF n k then t.tl else t.hd, n / (1 + (k : Int)) % 1000, if y = 2 then t.ow else decide (bitF n k % 2 = 1)⟩
def tnL (n y : Int) (k : Nat) : Ln → Ln
  | .ti t => .ti (tnT n y k t)
  | l => l
def turnL (n y : Int) : Nat → List Ln → List Ln
  | _, [] => []
  | k, l :: r => tnL n y k l :: turnL n y (k + 1) r
def turnT (n y : Int) : Nat → List Tr → List Tr
  | _, [] => []
  | k, t :: r => tnT n y k t :: turnT n y (k + 1) r
theorem turnL_app (n y : Int) : ∀ (a b : List Ln) (k : Nat), turnL n y k (a ++ b) = turnL n y k a ++ turnL n y (k + a.length) b
  | [], b, k => by simp [turnL]
  | x :: a, b, k => by
    show tnL n y k x :: turnL n y (k + 1) (a ++ b) = tnL n y k x :: (turnL n y (k + 1) a ++ turnL n y (k + (a.length + 1)) b)
    rw [turnL_app n y a b (k + 1)]
    congr 3
    omega
theorem turnL_pt (n y : Int) : ∀ (a : List Str) (k : Nat), turnL n y k (a.map Ln.pt) = a.map Ln.pt
  | [], k => rfl
  | x :: a, k => by
    show Ln.pt x :: turnL n y (k + 1) (a.map Ln.pt) = _
    rw [turnL_pt n y a]
    rfl
theorem turnL_ti (n y : Int) : ∀ (a : List Tr) (k : Nat), turnL n y k (a.map Ln.ti) = (turnT n y k a).map Ln.ti
  | [], k => rfl
  | x :: a, k => by
    show Ln.ti (tnT n y k x) :: turnL n y (k + 1) (a.map Ln.ti) = _
    rw [turnL_ti n y a]
    rfl
theorem turnT_all (n y : Int) {R : Tr → Tr → Prop} (h : ∀ k t, R t (tnT n y k t)) : ∀ (a : List Tr) (k : Nat), All2 R a (turnT n y k a)
  | [], k => .nil
  | x :: a, k => .cons (h k x) (turnT_all n y h a (k + 1))
theorem turnT_nums (n y : Int) : ∀ (a : List Tr) (k : Nat), (turnT n y k a).map (·.num) = a.map (·.num)
  | [], k => rfl
  | x :: a, k => by
    show x.num :: (turnT n y (k + 1) a).map (·.num) = _
    rw [turnT_nums n y a]
    rfl
theorem turnT_mem (n y : Int) : ∀ (a : List Tr) (k : Nat) (u : Tr), u ∈ turnT n y k a → ∃ t ∈ a, ∃ j, u = tnT n y j t
  | x :: a, k, u, h => by
    rcases List.mem_cons.mp h with h | h
    · exact ⟨x, List.mem_cons_self, k, h⟩
    · obtain ⟨t, ht, r⟩ := turnT_mem n y a (k + 1) u h
      exact ⟨t, List.mem_cons_of_mem _ ht, r⟩
def turnW (n y : Int) (w : Wr) : Wr := { w with ties := turnT n y w.names.length w.ties }
theorem turn_lines (n y : Int) (w : Wr) : turnL n y 0 (linesF w) = linesF (turnW n y w) := by
  unfold linesF turnW
  rw [turnL_app, turnL_app, turnL_pt, turnL_ti, List.length_map, Nat.zero_add]
  rfl
theorem turn_ok {n y : Int} {w : Wr} (ok : TxtOk w) : TxtOk (turnW n y w) := by
  have e := turnT_nums n y w.ties w.names.length
  have el := congrArg List.length e
  rw [List.length_map, List.length_map] at el
  refine ⟨⟨ok.ok.nd, ok.ok.len, ?_, by show (turnT n y w.names.length w.ties).length ≤ 48; rw [el]; exact ok.ok.tlen, fun u hu => ?_, ok.ok.g0⟩, ok.nm, ok.gv⟩
  · show (turnT n y w.names.length w.ties).Pairwise fun a b => a.num < b.num
    rw [← List.pairwise_map (f := fun t : Tr => t.num) (R := fun a b => a < b), e, List.pairwise_map]
    exact ok.ok.srt
  · obtain ⟨t, ht, j, rfl⟩ := turnT_mem n y w.ties _ u hu
    have k := ok.ok.tie t ht
    refine ⟨k.low, k.high, ?_, ?_, ?_, ?_, ?_⟩
    · show (if _ then t.hd else t.tl) ≠ (if _ then t.tl else t.hd)
      split
      · exact k.ne.symm
      · exact k.ne
    · show (if _ then t.hd else t.tl) ∈ w.names
      split
      · exact k.hd
      · exact k.tl
    · show (if _ then t.tl else t.hd) ∈ w.names
      split
      · exact k.tl
      · exact k.hd
    · show 0 ≤ n / (1 + (j : Int)) % 1000
      omega
    · show n / (1 + (j : Int)) % 1000 ≤ 10 ^ 60
      omega
theorem turn_rel (n y : Int) (w : Wr) : if y = 0 then All2 Turned w.ties (turnW n y w).ties else All2 Core w.ties (turnW n y w).ties := by
  by_cases c : y = 0
  · rw [if_pos c]
    refine turnT_all n y (fun k t => ⟨rfl, ?_⟩) _ _
    by_cases d : y = 0 ∧ 1 < bitF n k
    · right
      unfold tnT
      rw [if_pos d, if_pos d]
      exact ⟨rfl, rfl⟩
    · left
      unfold tnT
      rw [if_neg d, if_neg d]
      exact ⟨rfl, rfl⟩
  · rw [if_neg c]
    refine turnT_all n y (fun k t => ?_) _ _
    have d : ¬ (y = 0 ∧ 1 < bitF n k) := fun h => c h.1
    unfold tnT
    rw [if_neg d, if_neg d]
    exact ⟨rfl, rfl, rfl⟩
theorem line_len {ws : List Str} (h1 : ws.length ≤ 10) (h2 : ∀ x ∈ ws, x.length ≤ 100) : (Txt.join " " ws).length ≤ 2000 := by
  have a := join_len ws
  have b : (ws.map Str.length).sum ≤ ws.length * 100 := by
    clear a h1
    induction ws with
    | nil => simp
    | cons a l ih =>
      have := ih fun x hx => h2 x (List.mem_cons_of_mem _ hx)
      have := h2 a List.mem_cons_self
      simp only [List.map_cons, List.sum_cons, List.length_cons]
      omega
  omega
theorem sum_len {ws : List Str} (h1 : ws.length ≤ 10) (h2 : ∀ x ∈ ws, x.length ≤ 100) : (ws.map fun x => x.length).sum + ws.length * (" " : Str).length ≤ 16777216 := by
  have b : (ws.map Str.length).sum ≤ ws.length * 100 := by
    clear h1
    induction ws with
    | nil => simp
    | cons a l ih =>
      have := ih fun x hx => h2 x (List.mem_cons_of_mem _ hx)
      have := h2 a List.mem_cons_self
      simp only [List.map_cons, List.sum_cons, List.length_cons]
      omega
  have e := sp_len1
  have e2 : (ws.map fun x => x.length) = ws.map Str.length := rfl
  rw [e, e2]
  omega
theorem st_law_turned (a0 a1 a2 : V) : L2.start n_law_turned [a0, a1, a2] = [some a0, some a1, some a2, none, none, none, none, none, none, none] := rfl
theorem pure_law_turned {w : World} {K : PySem.W.Frag} {mg : Str → Option Value} (T : Tx w K mg) (vs : List V) (H : Hp) (Q : VK) (E : XK) (h : sp_law_turned K vs H Q E) : t_law_turned K { nx := fun _ H' => Q .non H', rt := Q } (start n_law_turned vs) H := by
  show t_law_turned K (D0 Q) (start n_law_turned vs) H
  unfold t_law_turned
  obtain ⟨l, w, n, y, rfl, el, ok, n0, n1, q⟩ := h
  rw [st_law_turned]
  walk_at "w"
  refine new_l (by simp) fun fl H1 nf s1 ef => ?_
  walk_at "w"
  let P : List Ln → L2.St → Hp → Prop := fun done σ H' => (∃ o4 o5 o6 o7 o8 o9, σ = [some (.ref l), some (.int n), some (.int y), some (.ref fl), o4, o5, o6, o7, o8, o9]) ∧ Same H H' ∧ H' fl = some (.lst ((turnL n y 0 done).map fun l => V.str (lnT l)))
  refine f_enum (linesF w) (fun l => V.str (lnT l)) P (.inl (.inl (s1 _ _ el))) ⟨⟨_, _, _, _, _, _, rfl⟩, s1, ef⟩ (fun _ _ _ H' _ h => .inl (.inl (h.2.1 _ _ el))) (fun done z rest σ H2 Tp H3 ey h nT s3 eT => ?_) (fun σ H2 h => ?_)
  · obtain ⟨⟨o4, o5, o6, o7, o8, o9, rfl⟩, s2, ef2⟩ := h
    obtain ⟨ok2, lk, _⟩ := line_ok ok ey
    have ll := lnW_len _ z lk ok2.g0
    have hne : lnW' z ≠ [] := by cases z <;> exact fun e => nomatch e
    have hl10 : (lnW' z).length ≤ 10 := by cases z <;> simp [lnW']
    have dl : done.length ≤ 64 := by
      have := congrArg List.length ey
      unfold linesF at this
      simp only [List.length_append, List.length_map, List.length_cons, List.length_nil] at this
      have h1 := ok.ok.len
      have h2 := ok.ok.tlen
      omega
    have ll2 := line_len hl10 fun x hx => (ll x hx).2.1
    have tsn : turnL n y 0 (done ++ [z]) = turnL n y 0 done ++ [tnL n y done.length z] := by rw [turnL_app, Nat.zero_add]; rfl
    have tll : (turnL n y 0 done).length ≤ 64 := by
      have : ∀ (a : List Ln) (k : Nat), (turnL n y k a).length = a.length := by
        intro a
        induction a with
        | nil => intro k; rfl
        | cons x a ih => intro k; show (turnL n y (k + 1) a).length + 1 = _; rw [ih]; rfl
      rw [this]
      exact dl
    -- the line is put behind
    have put : ∀ (wl : Addr) (o7 o8 o9 : Option V) (H' : Hp), Same H3 H' → H' wl = some (.lst ((lnW' (tnL n y done.length z)).map V.str)) → (∀ x ∈ lnW' (tnL n y done.length z), x.length ≤ 100) →
        (tDrop (tBM K "list" rAppend (tVar 3) (tCons (tM1 (mJoin K) (tC (.str " ")) (tVar 6)) tNil))) (dFor (P (done ++ [z])) (dSeq (tRet (tVar 3)) (D0 Q))) [some (.ref l), some (.int n), some (.int y), some (.ref fl), some (.int done.length), some (.str (lnT z)), some (.ref wl), o7, o8, o9] H' := by
      intro wl o7 o8 o9 H' s' ew hw
      have ef' := s' _ _ (s3 _ _ ef2)
      have h10 : (lnW' (tnL n y done.length z)).length ≤ 10 := by cases z <;> simp [lnW', tnL]
      walk_at "w"
      refine join_s _ ew (sum_len h10 hw) ?_
      rw [← lnT_join]
      walk_at "w"
      refine app_lo ef' (by rw [List.length_map]; omega) fun H'' o'' e'' => ?_
      walk_at "w"
      refine ⟨⟨_, _, _, _, _, _, rfl⟩, o''.same (s2.trans (s3.trans s')) nf, ?_⟩
      rw [e'', tsn, List.map_append]
      rfl
    rw [lnT_join z] at eT
    walk_at "w"
    refine ⟨_, _, rfl, rfl, by decide +kernel, Nat.le_trans (Nat.add_le_add_right ll2 2) (by decide), ?_⟩
    rw [split_sp hne fun p hp => (ll p hp).2.2]
    refine al_s fun wl H4 nw s4 ew => ?_
    rw [← lnT_join z]
    walk_at "w"
    cases z with
    | pt x =>
      refine if_dF (by rw [List.length_map]; simp [lnW']) ?_
      walk_at "v"
      walk_at "v"
      exact put wl _ _ _ H4 s4 ew fun x hx => (ll x hx).2.1
    | gv x =>
      refine if_dF (by rw [List.length_map]; simp [lnW']) ?_
      walk_at "v"
      walk_at "v"
      exact put wl _ _ _ H4 s4 ew fun x hx => (ll x hx).2.1
    | ti t =>
      obtain ⟨k1, k2, k3, k4, k5, k6, k7, k8, k9, k10⟩ := lk
      have ew : H4 wl = some (.lst [.str (if t.ow then "way" else "tie"), .str (numT t.num), .str t.tl, .str t.hd, .str (numT t.load)]) := ew
      refine if_dT (by rw [List.length_map]; simp [lnW']) ?_
      have g0 := ok2.g0
      have e20 : ((done.length : Int) % 20).toNat < 20 := by omega
      have kd : ∀ b : Bool, (if b = true then "way" else "tie" : Str).length ≤ 100 := fun b => by cases b <;> decide +kernel
      let D1 : Ends := dSeq (tDrop (tBM K "list" rAppend (tVar 3) (tCons (tM1 (mJoin K) (tC (.str " ")) (tVar 6)) tNil))) (dFor (P (done ++ [.ti t])) (dSeq (tRet (tVar 3)) (D0 Q)))
      have stD : ∀ (bv : Int) (o : Bool) (e1 e2 : Str) (en : Addr) (H' : Hp), Same H4 H' → H' en = some (.lst [.str e1, .str e2]) → tnT n y done.length t = ⟨t.num, e1, e2, n / (1 + (done.length : Int)) % 1000, o⟩ → e1.length ≤ 100 → e2.length ≤ 100 →
          (tAsg (tOp rCat (tOp rCat (tLst (tCons (tVar 8) (tCons (tOp (rIxL K) (tVar 6) (tC (.int 1))) tNil))) (tVar 9)) (tLst (tCons (tCB cStrI (tCons (tOp oMod (tOp oDiv (tVar 1) (tOp oAdd (tC (.int 1)) (tVar 4))) (tC (.int 1000))) tNil)) tNil))) (gName 6)) D1
            [some (.ref l), some (.int n), some (.int y), some (.ref fl), some (.int done.length), some (.str (lnT (.ti t))), some (.ref wl), some (.int bv), some (.str (if o then "way" else "tie")), some (.ref en)] H' := by
        intro bv o e1 e2 en H' s' ee et l1 l2
        have ew' := s' _ _ ew
        walk_at "w"
        refine ix_l (n := 1) ew' rfl ?_
        walk_at "w"
        refine new_l (by simp) fun c1 H5 nc1 s5 ec1 => ?_
        walk_at "w"
        refine cat_l ec1 (s5 _ _ ee) (by simp) fun c2 H6 nc2 s6 ec2 => ?_
        walk_at "w"
        refine o_div (by omega) (by omega) ?_
        walk_at "w"
        have l0 : 0 ≤ n / (1 + (done.length : Int)) % 1000 := by omega
        have l3 : n / (1 + (done.length : Int)) % 1000 ≤ 10 ^ 60 := by omega
        refine ⟨_, rfl, num_log l0 l3, ?_⟩
        walk_at "w"
        refine new_l (by simp) fun c3 H7 nc3 s7 ec3 => ?_
        refine cat_l (s7 _ _ ec2) ec3 (by simp) fun c4 H8 nc4 s8 ec4 => ?_
        walk_at "v"
        walk_at "v"
        have ln : lnW' (tnL n y done.length (.ti t)) = [(if o then "way" else "tie" : Str), numT t.num, e1, e2, numT (n / (1 + (done.length : Int)) % 1000)] := by
          show lnW' (.ti (tnT n y done.length t)) = _
          rw [et]
          rfl
        refine put c4 _ _ _ H8 ((s4.trans s').trans ((s5.trans s6).trans (s7.trans s8))) (by rw [ec4, ln]; rfl) ?_
        rw [ln]
        intro x hx
        simp only [List.mem_cons, List.not_mem_nil, or_false] at hx
        rcases hx with rfl | rfl | rfl | rfl | rfl
        · exact kd o
        · have := (num_len (by omega : 0 ≤ t.num) k7).2; omega
        · exact l1
        · exact l2
        · have := (num_len l0 l3).2; omega
      have q1 := k1.len
      have q2 := k2.len
      have stC : ∀ (o : Bool) (H' : Hp), Same H4 H' → (if y = 2 then t.ow else decide (bitF n done.length % 2 = 1)) = o →
          (tSeq (tAsg (tIf (tAnd (tTest (tOp rEq (tVar 2) (tC (.int 0)))) (tTest (tOp oGt (tVar 7) (tC (.int 1))))) (tRevL K (tSl (rSlL K) (tVar 6) (tPart (tC (.int 2))) (tPart (tC (.int 4))))) (tSl (rSlL K) (tVar 6) (tPart (tC (.int 2))) (tPart (tC (.int 4))))) (gName 9)) (tAsg (tOp rCat (tOp rCat (tLst (tCons (tVar 8) (tCons (tOp (rIxL K) (tVar 6) (tC (.int 1))) tNil))) (tVar 9)) (tLst (tCons (tCB cStrI (tCons (tOp oMod (tOp oDiv (tVar 1) (tOp oAdd (tC (.int 1)) (tVar 4))) (tC (.int 1000))) tNil)) tNil))) (gName 6))) D1
            [some (.ref l), some (.int n), some (.int y), some (.ref fl), some (.int done.length), some (.str (lnT (.ti t))), some (.ref wl), some (.int (bitF n done.length)), some (.str (if o then "way" else "tie")), o9] H' := by
        intro o H' s' eo
        have ew' := s' _ _ ew
        have str : ¬ (y = 0 ∧ 1 < bitF n done.length) → (tSl (rSlL K) (tVar 6) (tPart (tC (.int 2))) (tPart (tC (.int 4)))) [some (.ref l), some (.int n), some (.int y), some (.ref fl), some (.int done.length), some (.str (lnT (.ti t))), some (.ref wl), some (.int (bitF n done.length)), some (.str (if o then "way" else "tie")), o9] H'
            fun x H1 => gName 9 x [some (.ref l), some (.int n), some (.int y), some (.ref fl), some (.int done.length), some (.str (lnT (.ti t))), some (.ref wl), some (.int (bitF n done.length)), some (.str (if o then "way" else "tie")), o9] H1 (dSeq (tAsg (tOp rCat (tOp rCat (tLst (tCons (tVar 8) (tCons (tOp (rIxL K) (tVar 6) (tC (.int 1))) tNil))) (tVar 9)) (tLst (tCons (tCB cStrI (tCons (tOp oMod (tOp oDiv (tVar 1) (tOp oAdd (tC (.int 1)) (tVar 4))) (tC (.int 1000))) tNil)) tNil))) (gName 6)) D1).nx := by
          intro hc
          walk_at "w"
          refine sl_l (.inl (.inl ew')) fun en H5 ne s5 ee => ?_
          walk_at "v"
          walk_at "v"
          refine stD _ o t.tl t.hd en H5 (s'.trans s5) ee ?_ (by omega) (by omega)
          unfold tnT
          rw [if_neg hc, if_neg hc, eo]
        walk_at "w"
        refine if_d (fun c1 => ?_) (fun c1 => ?_)
        · walk_at "w"
          refine if_d (fun c2 => ?_) (fun c2 => ?_)
          · refine v_rev ?_
            walk_at "w"
            refine sl_l (.inl (.inl ew')) fun e0 H5 ne s5 ee => ?_
            refine rev_l ee fun en H6 ne2 s6 ee2 => ?_
            walk_at "v"
            walk_at "v"
            refine stD _ o t.hd t.tl en H6 (s'.trans (s5.trans s6)) ee2 ?_ (by omega) (by omega)
            unfold tnT
            rw [if_pos ⟨c1, c2⟩, if_pos ⟨c1, c2⟩, eo]
          · exact str fun h => c2 h.2
        · exact str fun h => c1 h.1
      walk_at "w"
      refine o_shl (by omega) (by omega) (by decide) ?_
      refine o_div (pw20 _ e20).1 (pw20 _ e20).2 ?_
      walk_at "w"
      refine if_d (fun c1 => ?_) (fun c1 => ?_)
      · walk_at "w"
        refine ix_l (n := 0) ew rfl ?_
        walk_at "v"
        walk_at "v"
        exact stC t.ow H4 (Same.refl _) (if_pos c1)
      · walk_at "w"
        refine new_l (by simp) fun ol H5 no s5 eo => ?_
        walk_at "w"
        refine ix_li eo (by omega) (by simp; omega) fun v hv => ?_
        have hv' : v = .str (if decide (bitF n done.length % 2 = 1) = true then "way" else "tie") := by
          have hv : [V.str "tie", V.str "way"][(bitF n done.length % 2).toNat]? = some v := hv
          by_cases c : bitF n done.length % 2 = 1
          · rw [decide_eq_true c, if_pos rfl]
            rw [c] at hv
            exact (Option.some.inj hv).symm
          · rw [decide_eq_false c, if_neg Bool.false_ne_true]
            rw [show bitF n done.length % 2 = 0 by omega] at hv
            exact (Option.some.inj hv).symm
        rw [hv']
        walk_at "v"
        walk_at "v"
        exact stC _ H5 s5 (if_neg c1)
  · obtain ⟨⟨o4, o5, o6, o7, o8, o9, rfl⟩, s2, ef2⟩ := h
    walk_at "w"
    rw [turn_lines] at ef2
    exact q fl (turnW n y w) H2 nf s2 (turn_ok ok) rfl (turn_rel n y w) ef2
theorem cutV_drop (xs : List V) (i : Nat) : cutV xs (some (i : Int)) none = xs.drop i := by
  unfold cutV
  rw [HT.sIx_none, HT.sIx_nat]
  by_cases c : i ≤ xs.length
  · rw [Nat.min_eq_left c, List.take_of_length_le (by rw [List.length_drop]; exact Nat.le_refl _)]
  · rw [Nat.min_eq_right (by omega), List.drop_of_length_le (Nat.le_refl xs.length), List.take_nil, List.drop_of_length_le (by omega)]
theorem st_law_rings_even (a0 a1 a2 : V) : L2.start n_law_rings_even [a0, a1, a2] = [some a0, some a1, some a2, none, none, none, none, none, none] := rfl
theorem pure_law_rings_even {w : World} {K : PySem.W.Frag} {mg : Str → Option Value} (T : Tx w K mg) (vs : List V) (H : Hp) (Q : VK) (E : XK) (h : sp_law_rings_even K vs H Q E) : t_law_rings_even K { nx := fun _ H' => Q .non H', rt := Q } (start n_law_rings_even vs) H := by
  show t_law_rings_even K (D0 Q) (start n_law_rings_even vs) H
  unfold t_law_rings_even
  obtain ⟨p, lc, ld, m, ln, lt, l, w, c, rfl, hd, ok, el, hp, q⟩ := h
  rw [st_law_rings_even]
  have hw := hd.web
  have hm := hd.mod
  have nd := nums_nodup ok.srt
  have el' : H l = some (.lst (((forestF w.ties).map (·.num)).map V.int)) := by rw [el, List.map_map]; rfl
  walk_at "w"
  refine hm.g_ties ?_
  walk_at "w"
  refine hm.sorted ok.srt ok.tlen fun so H1 nso s1 eso => ?_
  walk_at "w"
  have tl48 := ok.tlen
  refine l_filter w.ties (fun t => V.int t.num) (fun t => !decide (t.num ∈ (forestF w.ties).map (·.num))) (.inl (.inl eso)) (by omega) (fun t ht H2 s2 N k1 k0 => ?_) (fun us H2 nu s2 eu => ?_)
  · have el2 := (s1.trans s2) _ _ el'
    walk_at "w"
    refine in_l el2 rfl (flat_int _) ?_
    rw [inV_int]
    walk_at "w"
    refine if_n (fun c1 => ?_) (fun c1 => ?_)
    · walk_at "w"
      exact k1 _ (Same.refl _) (by rw [decide_eq_false c1]; rfl)
    · exact k0 _ (Same.refl _) (by rw [decide_eq_true c1]; rfl)
  · have s12 := s1.trans s2
    have usl := Nat.le_trans (List.length_filter_le (fun t : Tr => !decide (t.num ∈ (forestF w.ties).map (·.num))) w.ties) ok.tlen
    let P : List Tr → L2.St → Hp → Prop := fun done σ H' => (∃ o4 o5 o6 o7 o8, σ = [some (.ref p), some (.ref m), some (.ref l), some (.bl (done.all fun t => decide (c t.tl ≠ c t.hd))), o4, o5, o6, o7, o8]) ∧ Same H2 H'
    walk_at "w"
    refine f_list (w.ties.filter fun t => !decide (t.num ∈ (forestF w.ties).map (·.num))) (fun t => V.int t.num) P (.inl (.inl eu)) ⟨⟨_, _, _, _, _, rfl⟩, Same.refl _⟩ (fun _ _ _ H' _ h => .inl (.inl (h.2 _ _ eu))) (fun done t rest σ H3 ey h => ?_) (fun σ H3 h => ?_)
    · obtain ⟨⟨o4, o5, o6, o7, o8, rfl⟩, s3⟩ := h
      have htm : t ∈ w.ties.filter fun t => !decide (t.num ∈ (forestF w.ties).map (·.num)) := by rw [ey]; simp
      obtain ⟨ht, hnf⟩ := List.mem_filter.mp htm
      have hnf : t.num ∉ (forestF w.ties).map (·.num) := fun h => by rw [decide_eq_true h] at hnf; exact nomatch hnf
      have tk := ok.tie t ht
      have s13 := s12.trans s3
      have el3 := s13 _ _ el
      walk_at "w"
      refine list_l el3 fun a H4 na s4 ea => ?_
      have hw4 := hw.up (s13.trans s4)
      walk_at "w"
      refine ⟨p, lc, ld, a, w, t, rfl, hw4, ok, ea, ht, hnf, fun r H5 nr s5 er => ?_⟩
      have I := (came_inv ok.fwithin tk.hd).1
      have Fl := cinv_len ok.fwithin tk.hd I
      have hgo : Go (forestF w.ties) t.hd (wayF (cameF (adjF (forestF w.ties)) t.hd) t.tl) t.tl := by
        refine way_go I Fl ?_
        rw [came_keys ok.fwithin tk.hd, forest_conn]
        exact Conn.one ⟨t, ht, .inr ⟨rfl, rfl⟩⟩
      have rev := ring_even hp hgo
      have wl := way_len (cameF (adjF (forestF w.ties)) t.hd) t.tl
      generalize wayF (cameF (adjF (forestF w.ties)) t.hd) t.tl = ns at er hgo rev wl
      have s15 := s13.trans (s4.trans s5)
      have hm5 := hm.up s15
      walk_at "w"
      refine hm5.g_ties ?_
      walk_at "w"
      refine hm5.get_tie ok.srt ht fun b hb => ?_
      walk_at "w"
      refine cut2 hb fun d H6 nd6 s6 ed => ?_
      refine g_tup ed rfl ?_
      have er6 := s6 _ _ er
      have hm6 := hm5.up s6
      walk_at "w"
      refine sl_l (.inl (.inl er6)) fun e H7 ne s7 ee => ?_
      have ee' : H7 e = some (.lst (ns.map V.int)) := by rw [ee, show (1 : Int) = ((1 : Nat) : Int) from rfl, cutV_drop]; rfl
      have hm7 := hm6.up s7
      walk_at "w"
      refine ⟨m, ln, lt, e, w, ns, t.hd, t.tl, rfl, hm7, ok, ee', by omega, hgo.mono (forest_sub _), fun f xs H8 nf s8 ef => ?_⟩
      rw [List.map_append] at ef
      walk_at "w"
      refine if_dF (by intro e; cases e) ?_
      walk_at "w"
      refine u_int ?_
      refine ix_last ef ?_
      walk_at "w"
      refine if_nF rfl ?_
      have er8 : H8 r = some (.lst (.int t.num :: ns.map V.int)) := (s7.trans s8) _ _ er6
      walk_at "w"
      refine ix_l (n := 0) er8 rfl ?_
      walk_at "w"
      refine if_nF rfl ?_
      have s38 := s3.trans ((s4.trans s5).trans (s6.trans (s7.trans s8)))
      have allE : (done ++ [t]).all (fun t => decide (c t.tl ≠ c t.hd)) = (done.all (fun t => decide (c t.tl ≠ c t.hd)) && decide (c t.tl ≠ c t.hd)) := by rw [List.all_append]; simp
      have key : ∀ (b' : Bool) (o4 o5 o6 o7 o8 : Option V), b' = (done ++ [t]).all (fun t => decide (c t.tl ≠ c t.hd)) → P (done ++ [t]) [some (.ref p), some (.ref m), some (.ref l), some (.bl b'), o4, o5, o6, o7, o8] H8 := by
        rintro b' o4 o5 o6 o7 o8 rfl
        exact ⟨⟨_, _, _, _, _, rfl⟩, s38⟩
      walk_at "w"
      refine if_c (fun c1 => ?_) (fun c1 => ?_)
      · walk_at "w"
        refine key _ _ _ _ _ _ ?_
        rw [allE, c1, Bool.true_and]
        exact decide_eq_decide.mpr ⟨fun h => rev.mp (by rw [List.length_cons, List.length_map] at h; omega), fun h => by have := rev.mpr h; rw [List.length_cons, List.length_map]; omega⟩
      · walk_at "w"
        refine key _ _ _ _ _ _ ?_
        rw [allE, c1]
        rfl
    · obtain ⟨⟨o4, o5, o6, o7, o8, rfl⟩, s3⟩ := h
      walk_at "w"
      have e : ((w.ties.filter fun t => !decide (t.num ∈ (forestF w.ties).map (·.num))).all fun t => decide (c t.tl ≠ c t.hd)) = properB w.ties c := by
        rw [Bool.eq_iff_iff, properB_iff, List.all_eq_true]
        constructor
        · intro h t ht
          by_cases cf : t.num ∈ (forestF w.ties).map (·.num)
          · obtain ⟨u, hu, e⟩ := List.mem_map.mp cf
            rw [← num_inj ok.srt (forest_sub _ u hu) ht e]
            exact hp u hu
          · exact of_decide_eq_true (h t (List.mem_filter.mpr ⟨ht, by rw [decide_eq_false cf]; rfl⟩))
        · intro h t ht
          exact decide_eq_true (h t (List.mem_filter.mp ht).1)
      rw [e]
      exact q H3 (s12.trans s3)
section
variable {w : World} {K : PySem.W.Frag} {mg : Str → Option Value} {H : Hp} {Q : VK} {a dx : Addr} {fs : List (Str × V)}
theorem isi_way (T : Tx w K mg) (h : H a = some (.ins (He.ga K "Way") dx fs)) (q : Q (.bl true) H) : rIsi K [.ref a, .ref (He.ga K "Way")] H Q := ⟨_, _, _, _, true, rfl, .own _, T.ty_Way h, T.kit_Way_Way, q⟩
theorem isi_border (T : Tx w K mg) (h : H a = some (.ins (He.ga K "Border") dx fs)) (q : Q (.bl false) H) : rIsi K [.ref a, .ref (He.ga K "Way")] H Q := ⟨_, _, _, _, false, rfl, .own _, T.ty_Border h, T.kit_Border_Way, q⟩
theorem isi_sides (T : Tx w K mg) (h : H a = some (.ins (He.ga K "Sides") dx fs)) (q : Q (.bl true) H) : rIsi K [.ref a, .ref (He.ga K "Sides")] H Q := ⟨_, _, _, _, true, rfl, .own _, T.ty_Sides h, T.kit_Sides_Sides, q⟩
theorem isi_odd (T : Tx w K mg) (h : H a = some (.ins (He.ga K "OddRing") dx fs)) (q : Q (.bl false) H) : rIsi K [.ref a, .ref (He.ga K "Sides")] H Q := ⟨_, _, _, _, false, rfl, .own _, T.ty_OddRing h, T.kit_OddRing_Sides, q⟩
theorem fld_any {C : Addr} {f : Str} {v : V} (h : H a = some (.ins C dx fs)) (c : Cls K C) (n : NoAttr K C f) (e : fs.lookup f = some v) (q : Q v H) : FldR K f (.ref a) H Q := ⟨a, C, dx, fs, v, rfl, h, c, n, e, q⟩
end
theorem st_law_way_row (a0 : V) : L2.start n_law_way_row [a0] = [some a0] := rfl
theorem pure_law_way_row {w : World} {K : PySem.W.Frag} {mg : Str → Option Value} (T : Tx w K mg) (vs : List V) (H : Hp) (Q : VK) (E : XK) (h : sp_law_way_row K vs H Q E) : t_law_way_row K { nx := fun _ H' => Q .non H', rt := Q } (start n_law_way_row vs) H := by
  show t_law_way_row K (D0 Q) (start n_law_way_row vs) H
  unfold t_law_way_row
  obtain ⟨p, l, rfl, ⟨ns, ⟨dx, h1, h2⟩, q⟩ | ⟨xs, ⟨dx, h1, h2⟩, q⟩⟩ := h
  · rw [st_law_way_row]
    walk_at "w"
    refine isi_way T h1 ?_
    walk_at "w"
    refine fld_any h1 T.c_Way T.n_Way_numbers rfl ?_
    walk_at "w"
    refine list_l h2 fun a H1 na s1 ea => ?_
    walk_at "w"
    refine new_l (by simp) fun r H2 nr s2 er => ?_
    walk_at "w"
    exact q r a H2 (s1.trans s2) er (s2 _ _ ea)
  · rw [st_law_way_row]
    walk_at "w"
    refine isi_border T h1 ?_
    walk_at "w"
    refine fld_any h1 T.c_Border T.n_Border_names rfl ?_
    walk_at "w"
    refine list_l h2 fun a H1 na s1 ea => ?_
    walk_at "w"
    refine new_l (by simp) fun r H2 nr s2 er => ?_
    walk_at "w"
    exact q r a H2 (s1.trans s2) er (s2 _ _ ea)
section
variable {K : PySem.W.Frag} {H H' : Hp} {Q : VK} {a b : Addr}
theorem eqv_nil : ∀ ds : List PyData, PyData.eqv (.list ds) (.list []) = ds.isEmpty
  | [] => rfl
  | _ :: _ => rfl
theorem dp_lists {ys : List (Addr × List Str)} (h : H a = some (.lst (ys.map fun y => V.ref y.1))) (hy : ∀ y ∈ ys, H y.1 = some (.lst (y.2.map V.str))) : Dp K H (.ref a) (.list ((ys.map (·.2)).map fun xs => .list (xs.map PyData.str))) := by
  rw [List.map_map]
  exact .lst (.inl (.inl h)) (dpAll_map ys fun y hm => dp_strs (hy y hm))
theorem sh_lists {xss : List (List Str)} (h : ∀ xs ∈ xss, ∀ x ∈ xs, okName x) : Sh 2 (.list (xss.map fun xs => .list (xs.map PyData.str))) := sh_list fun d hd => by
  obtain ⟨xs, hxs, rfl⟩ := List.mem_map.mp hd
  exact sh_names (h xs hxs)
theorem dp_wayrow {s : Str} {ns : List Int} (h : H a = some (.tup [.str s, .ref b])) (h2 : H b = some (.lst (ns.map V.int))) : Dp K H (.ref a) (.tuple [.str s, .list (ns.map PyData.int)]) := .tup (.inl (.inl h)) (.cons (.str _) (.cons (dp_ints h2) .nil))
theorem dp_borow {s : Str} {ns : List Str} (h : H a = some (.tup [.str s, .ref b])) (h2 : H b = some (.lst (ns.map V.str))) : Dp K H (.ref a) (.tuple [.str s, .list (ns.map PyData.str)]) := .tup (.inl (.inl h)) (.cons (.str _) (.cons (dp_strs h2) .nil))
theorem sh_two {s : Str} {d : PyData} (hs : s.cps.all (· < 0x110000) = true) (h : Sh 1 d) : Sh 2 (.tuple [.str s, d]) := sh_tup fun e he => by
  simp only [List.mem_cons, List.not_mem_nil, or_false] at he
  rcases he with rfl | rfl
  · exact ⟨(sh_str hs).1, by rw [PyData.depth]; exact Nat.zero_le _⟩
  · exact h
end
/-- who hangs together, told by the pieces -/
theorem hang {w : Wr} {a b : Str} (ha : a ∈ w.names) (hb : b ∈ w.names) : ((pcsF w.ties w.names).filter fun xs => decide (a ∈ xs) && decide (b ∈ xs)) ≠ [] ↔ Conn w.ties a b := by
  rw [Ne, List.filter_eq_nil_iff]
  constructor
  · intro h
    by_cases c : Conn w.ties a b
    · exact c
    · exfalso
      refine h fun xs hxs => ?_
      obtain ⟨y, hy, rfl⟩ := mem_pcsF.mp hxs
      rw [Bool.and_eq_true, decide_eq_true_iff, decide_eq_true_iff, mem_clsF, mem_clsF]
      exact fun h => c (h.1.2.symm.trans h.2.2)
  · intro c h
    have := h (clsF w.ties w.names a) (mem_pcsF.mpr ⟨a, ha, rfl⟩)
    rw [Bool.and_eq_true, decide_eq_true_iff, decide_eq_true_iff, mem_clsF, mem_clsF] at this
    exact this ⟨⟨ha, .refl a⟩, hb, c⟩
theorem st_law_ways_good (a0 a1 a2 a3 : V) : L2.start n_law_ways_good [a0, a1, a2, a3] = [some a0, some a1, some a2, some a3, none, none, none, none, none, none, none, none] := rfl
theorem pure_law_ways_good {w : World} {K : PySem.W.Frag} {mg : Str → Option Value} (T : Tx w K mg) (vs : List V) (H : Hp) (Q : VK) (E : XK) (h : sp_law_ways_good K vs H Q E) : t_law_ways_good K { nx := fun _ H' => Q .non H', rt := Q } (start n_law_ways_good vs) H := by
  show t_law_ways_good K (D0 Q) (start n_law_ways_good vs) H
  unfold t_law_ways_good
  obtain ⟨p, lc, ld, m, ln, lt, l, w, n, rfl, hd, ok, n0, n1, hl, q⟩ := h
  rw [st_law_ways_good]
  have hw := hd.web
  have hm := hd.mod
  have nl := ok.ok.len
  walk_at "w"
  refine hm.g_names ?_
  walk_at "w"
  refine new_l (by simp) fun e H1 ne s1 ee => ?_
  have hm1 := hm.up s1
  have hw1 := hw.up s1
  refine eqD_strs (ms := []) ok.nm (fun x hx => nomatch hx) hm1.nm ee ?_
  walk_at "w"
  refine if_d (fun c0 => ?_) (fun c0 => ?_)
  · walk_at "w"
    exact q H1 s1
  have l1 : 1 ≤ w.names.length := by
    cases h : w.names with
    | nil => exact absurd h c0
    | cons a l => rw [List.length_cons]; omega
  walk_at "w"
  refine hm1.len_names ?_
  refine o_mod (by omega) ?_
  refine name_at hm1.nm (Int.emod_nonneg _ (by omega)) (Int.emod_lt_of_pos _ (by omega)) fun a ha => ?_
  have ha := List.mem_of_getElem? ha
  walk_at "w"
  refine ⟨p, lc, ld, w, rfl, hw1, ok, fun li H2 nli s2 eli => ?_⟩
  walk_at "w"
  refine ⟨li, w, n, 1, rfl, eli, ok, n0, n1, fun tu w' H3 ntu s3 ok' hnm hrel etu => ?_⟩
  rw [if_neg (by decide)] at hrel
  have hadj := core_adj hrel
  walk_at "w"
  refine ⟨tu, w', rfl, etu, ok', fun p' lc' ld' H4 s4 hw4' => ?_⟩
  have s14 := ((s1.trans s2).trans s3).trans s4
  have hm4 := hm.up s14
  walk_at "w"
  let P : List Str → L2.St → Hp → Prop := fun done σ H' => (∃ o7 o8 o9 o10, σ = [some (.ref p), some (.ref m), some (.ref l), some (.int n), some (.ref ln), some (.str a), some (.ref p'), o7, o8, o9, o10, none]) ∧ Same H4 H'
  refine f_list w.names V.str P (.inl (.inl hm4.nm)) ⟨⟨_, _, _, _, rfl⟩, Same.refl _⟩ (fun _ _ _ H' _ h => .inl (.inl (hm4.up h.2).nm)) (fun done b rest σ H5 ey h => ?_) (fun σ H5 h => ?_)
  · obtain ⟨⟨o7, o8, o9, o10, rfl⟩, s5⟩ := h
    have hb : b ∈ w.names := by rw [ey]; simp
    have hw5 := hw.up (s14.trans s5)
    walk_at "w"
    refine ⟨p, lc, ld, w, a, b, rfl, hw5, ok.ok, ha, hb, fun f1 H6 s6 ⟨q1, h1⟩ => ?_⟩
    have hw6' := (hw4'.up s5).up s6
    walk_at "w"
    refine ⟨p', lc', ld', w', a, b, rfl, hw6', ok'.ok, by rw [hnm]; exact ha, by rw [hnm]; exact hb, fun f2 H7 s7 ⟨q2, h2⟩ => ?_⟩
    rw [hadj, hnm] at h2
    have Ww := ok.ok.within
    have hkeys := came_keys Ww ha b
    have s47 := s5.trans (s6.trans s7)
    have hm7 := hm4.up s47
    by_cases c : b ∈ ckeys (cameF (adjF w.ties) a)
    · rw [if_pos c] at h1 h2
      have hc := hkeys.mp c
      obtain ⟨dx, h11, h12⟩ := h1
      walk_at "w"
      refine ⟨f2, q2, rfl, .inl ⟨_, h2, fun r2 l2 H8 s8 er2 el2 => ?_⟩⟩
      have h11' := (s7.trans s8) _ _ h11
      have h12' := (s7.trans s8) _ _ h12
      walk_at "w"
      refine ⟨f1, q1, rfl, .inl ⟨_, ⟨dx, h11', h12'⟩, fun r1 l1 H9 s9 er1 el1 => ?_⟩⟩
      refine neD_same (dp_wayrow (s9 _ _ er2) (s9 _ _ el2)) (dp_wayrow er1 el1) (sh_two (by decide +kernel) (sh_ints _)) (by decide) ?_
      have s79 := s8.trans s9
      have h119 := s9 _ _ h11'
      have h129 := s9 _ _ h12'
      have s49 := s47.trans s79
      obtain ⟨ys, y1, y2, y3⟩ := hl.up (s14.trans s49)
      have yl : ys.length ≤ 16 := by
        have := pcs_len w.ties w.names w.names []
        have e : ys.length = (pcsF w.ties w.names).length := by rw [← y1, List.length_map]
        rw [e]
        simp at this
        exact Nat.le_trans this nl
      walk_at "w"
      refine l_filter ys (fun y => V.ref y.1) (fun y => decide (a ∈ y.2) && decide (b ∈ y.2)) (.inl (.inl y2)) (by omega) (fun y hy H10 s10 N k1 k0 => ?_) (fun hg H10 nh s10 eh => ?_)
      · have ey := s10 _ _ (y3 y hy)
        walk_at "w"
        refine in_l ey rfl (flat_str _) ?_
        rw [inV_str]
        walk_at "w"
        refine if_d (fun c1 => ?_) (fun c1 => ?_)
        · walk_at "w"
          refine in_l ey rfl (flat_str _) ?_
          rw [inV_str]
          walk_at "w"
          refine if_d (fun c2 => ?_) (fun c2 => ?_)
          · walk_at "w"
            exact k1 _ (Same.refl _) (by rw [decide_eq_true c1, decide_eq_true c2]; rfl)
          · exact k0 _ (Same.refl _) (by rw [decide_eq_true c1, decide_eq_false c2]; rfl)
        · exact k0 _ (Same.refl _) (by rw [decide_eq_false c1]; rfl)
      · walk_at "w"
        refine new_l (by simp) fun z H11 nz s11 ez => ?_
        have hfl : ((ys.filter fun y => decide (a ∈ y.2) && decide (b ∈ y.2)).map (·.2)) = (pcsF w.ties w.names).filter fun xs => decide (a ∈ xs) && decide (b ∈ xs) := by
          rw [← y1]
          exact (List.filter_map (f := fun y : Addr × List Str => y.2) (p := fun xs : List Str => decide (a ∈ xs) && decide (b ∈ xs))).symm
        have hdp := dp_lists (K := K) (s11 _ _ eh) fun y hy => (s10.trans s11) _ _ (y3 y (List.mem_filter.mp hy).1)
        rw [hfl] at hdp
        refine ⟨_, .list [], hdp, .lst (.inl (.inl ez)) .nil, (sh_lists fun xs hxs x hx => ?_).shaped, rfl, ?_⟩
        · obtain ⟨y, _, rfl⟩ := mem_pcsF.mp (List.mem_filter.mp hxs).1
          exact ok.nm x (mem_clsF.mp hx).1
        rw [eqv_nil]
        have hne : (((pcsF w.ties w.names).filter fun xs => decide (a ∈ xs) && decide (b ∈ xs)).map fun xs => PyData.list (xs.map PyData.str)).isEmpty = false := by
          have := (hang ha hb).mpr hc
          cases h : (pcsF w.ties w.names).filter fun xs => decide (a ∈ xs) && decide (b ∈ xs) with
          | nil => exact absurd h this
          | cons x l => rfl
        rw [hne]
        have h1111 := (s10.trans s11) _ _ h119
        walk_at "w"
        refine isi_way T h1111 ?_
        walk_at "w"
        refine if_nF rfl ?_
        walk_at "w"
        refine fld_any h1111 T.c_Way T.n_Way_numbers rfl ?_
        have hm11 := hm4.up (s49.trans (s10.trans s11))
        have I := (came_inv Ww ha).1
        walk_at "w"
        refine ⟨m, ln, lt, q1, w, wayF (cameF (adjF w.ties) a) b, a, b, rfl, hm11, ok.ok, (s10.trans s11) _ _ h129, by have := way_len (cameF (adjF w.ties) a) b; omega, way_go I (cinv_len Ww ha I) c, fun f xs H12 nf s12 ef => ?_⟩
        rw [List.map_append] at ef
        walk_at "w"
        refine if_dF (by intro e; cases e) ?_
        walk_at "w"
        refine u_int ?_
        refine ix_last ef ?_
        walk_at "w"
        refine if_nF rfl ?_
        walk_at "w"
        exact ⟨⟨_, _, _, _, rfl⟩, s49.trans ((s10.trans s11).trans s12)⟩
    · rw [if_neg c] at h1 h2
      have hc : ¬ Conn w.ties a b := fun h => c (hkeys.mpr h)
      obtain ⟨dx, h11, h12⟩ := h1
      walk_at "w"
      refine ⟨f2, q2, rfl, .inr ⟨_, h2, fun r2 l2 H8 s8 er2 el2 => ?_⟩⟩
      have h11' := (s7.trans s8) _ _ h11
      have h12' := (s7.trans s8) _ _ h12
      walk_at "w"
      refine ⟨f1, q1, rfl, .inr ⟨_, ⟨dx, h11', h12'⟩, fun r1 l1 H9 s9 er1 el1 => ?_⟩⟩
      refine neD_same (dp_borow (s9 _ _ er2) (s9 _ _ el2)) (dp_borow er1 el1) (sh_two (by decide +kernel) (sh_names fun x hx => ok.nm x (List.mem_filter.mp hx).1)) (by decide) ?_
      have s79 := s8.trans s9
      have h119 := s9 _ _ h11'
      have s49 := s47.trans s79
      obtain ⟨ys, y1, y2, y3⟩ := hl.up (s14.trans s49)
      have yl : ys.length ≤ 16 := by
        have := pcs_len w.ties w.names w.names []
        have e : ys.length = (pcsF w.ties w.names).length := by rw [← y1, List.length_map]
        rw [e]
        simp at this
        exact Nat.le_trans this nl
      walk_at "w"
      refine l_filter ys (fun y => V.ref y.1) (fun y => decide (a ∈ y.2) && decide (b ∈ y.2)) (.inl (.inl y2)) (by omega) (fun y hy H10 s10 N k1 k0 => ?_) (fun hg H10 nh s10 eh => ?_)
      · have ey := s10 _ _ (y3 y hy)
        walk_at "w"
        refine in_l ey rfl (flat_str _) ?_
        rw [inV_str]
        walk_at "w"
        refine if_d (fun c1 => ?_) (fun c1 => ?_)
        · walk_at "w"
          refine in_l ey rfl (flat_str _) ?_
          rw [inV_str]
          walk_at "w"
          refine if_d (fun c2 => ?_) (fun c2 => ?_)
          · walk_at "w"
            exact k1 _ (Same.refl _) (by rw [decide_eq_true c1, decide_eq_true c2]; rfl)
          · exact k0 _ (Same.refl _) (by rw [decide_eq_true c1, decide_eq_false c2]; rfl)
        · exact k0 _ (Same.refl _) (by rw [decide_eq_false c1]; rfl)
      · walk_at "w"
        refine new_l (by simp) fun z H11 nz s11 ez => ?_
        have hfl : ((ys.filter fun y => decide (a ∈ y.2) && decide (b ∈ y.2)).map (·.2)) = (pcsF w.ties w.names).filter fun xs => decide (a ∈ xs) && decide (b ∈ xs) := by
          rw [← y1]
          exact (List.filter_map (f := fun y : Addr × List Str => y.2) (p := fun xs : List Str => decide (a ∈ xs) && decide (b ∈ xs))).symm
        have hdp := dp_lists (K := K) (s11 _ _ eh) fun y hy => (s10.trans s11) _ _ (y3 y (List.mem_filter.mp hy).1)
        rw [hfl] at hdp
        refine ⟨_, .list [], hdp, .lst (.inl (.inl ez)) .nil, (sh_lists fun xs hxs x hx => ?_).shaped, rfl, ?_⟩
        · obtain ⟨y, _, rfl⟩ := mem_pcsF.mp (List.mem_filter.mp hxs).1
          exact ok.nm x (mem_clsF.mp hx).1
        rw [eqv_nil]
        have hne : (((pcsF w.ties w.names).filter fun xs => decide (a ∈ xs) && decide (b ∈ xs)).map fun xs => PyData.list (xs.map PyData.str)).isEmpty = true := by
          cases h : (pcsF w.ties w.names).filter fun xs => decide (a ∈ xs) && decide (b ∈ xs) with
          | nil => rfl
          | cons x l => exact absurd ((hang ha hb).mp (by rw [h]; exact fun e => nomatch e)) hc
        rw [hne]
        have h1111 := (s10.trans s11) _ _ h119
        walk_at "w"
        refine isi_border T h1111 ?_
        walk_at "w"
        refine if_nF rfl ?_
        walk_at "w"
        exact ⟨⟨_, _, _, _, rfl⟩, s49.trans (s10.trans s11)⟩
  · obtain ⟨_, s5⟩ := h
    walk_at "w"
    exact q H5 (s14.trans s5)
/-! ### what is held can be shown -/
structure HD (d : PyData) : Prop where
  sh : d.showable = true
  nd : d.hasDict = false
  ln : d.shown.length ≤ sizeLine
  dp : d.depth ≤ 40
theorem show_all : ∀ ds : List PyData, (∀ d ∈ ds, d.showable = true) → PyData.showableAll ds = true
  | [], _ => rfl
  | d :: ds, h => by rw [PyData.showableAll, h d List.mem_cons_self, show_all ds fun e he => h e (List.mem_cons_of_mem _ he)]; rfl
theorem leaves_all {B : Nat} : ∀ ds : List PyData, (∀ d ∈ ds, d.leavesShort B = true) → PyData.leavesShortAll B ds = true
  | [], _ => rfl
  | d :: ds, h => by rw [PyData.leavesShortAll, h d List.mem_cons_self, leaves_all ds fun e he => h e (List.mem_cons_of_mem _ he)]; rfl
theorem bulk_all {k : Nat} : ∀ ds : List PyData, (∀ d ∈ ds, d.bulk ≤ k) → PyData.bulkAll ds ≤ ds.length * (k + 1)
  | [], _ => Nat.zero_le _
  | d :: ds, h => by
    have h1 := h d List.mem_cons_self
    have h2 := bulk_all ds fun e he => h e (List.mem_cons_of_mem _ he)
    rw [PyData.bulkAll, List.length_cons, Nat.add_mul]
    omega
theorem hd_ints {ns : List Int} (h : ∀ n ∈ ns, 0 ≤ n ∧ n ≤ 10 ^ 60) (l : ns.length ≤ 48) : HD (.list (ns.map PyData.int)) := by
  have hs := sh_ints ns
  refine ⟨?_, PyData.hasDict_of_canLay _ hs.1, ?_, Nat.le_trans hs.2 (by decide)⟩
  · rw [PyData.showable]
    refine show_all _ fun d hd => ?_
    obtain ⟨n, hn, rfl⟩ := List.mem_map.mp hd
    rw [PyData.showable]
    exact decide_eq_true (num_log (h n hn).1 (h n hn).2)
  · have b := PyData.shown_le_bulk 100 (by decide) (.list (ns.map PyData.int)) (by
      rw [PyData.leavesShort]
      refine leaves_all _ fun d hd => ?_
      obtain ⟨n, hn, rfl⟩ := List.mem_map.mp hd
      rw [PyData.leavesShort]
      refine decide_eq_true ?_
      obtain ⟨h0, h1⟩ := h n hn
      have := (num_len h0 h1).2
      show (numT n).length ≤ 100
      omega)
    have e : (PyData.list (ns.map PyData.int)).bulk ≤ 48 := by
      rw [PyData.bulk]
      have := bulk_all (k := 0) (ns.map PyData.int) fun d hd => by
        obtain ⟨n, hn, rfl⟩ := List.mem_map.mp hd
        exact Nat.le_refl _
      rw [List.length_map] at this
      omega
    exact sz (by omega)
theorem hd_lists {xss : List (List Str)} (h : ∀ xs ∈ xss, xs.length ≤ 16 ∧ ∀ x ∈ xs, okName x) (l : xss.length ≤ 16) : HD (.list (xss.map fun xs => .list (xs.map PyData.str))) := by
  have hs := sh_lists fun xs hx => (h xs hx).2
  refine ⟨?_, PyData.hasDict_of_canLay _ hs.1, ?_, Nat.le_trans hs.2 (by decide)⟩
  · rw [PyData.showable]
    refine show_all _ fun d hd => ?_
    obtain ⟨xs, _, rfl⟩ := List.mem_map.mp hd
    rw [PyData.showable]
    refine show_all _ fun d hd => ?_
    obtain ⟨x, _, rfl⟩ := List.mem_map.mp hd
    rfl
  · have b := PyData.shown_le_bulk 8 (by decide) (.list (xss.map fun xs => .list (xs.map PyData.str))) (by
      rw [PyData.leavesShort]
      refine leaves_all _ fun d hd => ?_
      obtain ⟨xs, hx, rfl⟩ := List.mem_map.mp hd
      rw [PyData.leavesShort]
      refine leaves_all _ fun d hd => ?_
      obtain ⟨x, hxm, rfl⟩ := List.mem_map.mp hd
      rw [PyData.leavesShort, List.all_eq_true]
      intro c hc
      have := ((h xs hx).2 x hxm).sg c hc
      rw [lets] at this
      refine decide_eq_true ?_
      simp only [List.mem_cons, List.not_mem_nil, or_false] at this
      have e : (16 : Nat) ^ 8 = 4294967296 := by decide
      omega)
    have e : (PyData.list (xss.map fun xs => .list (xs.map PyData.str))).bulk ≤ 16 * (16 * 13 + 1) := by
      rw [PyData.bulk]
      have := bulk_all (k := 16 * 13) (xss.map fun xs => PyData.list (xs.map PyData.str)) fun d hd => by
        obtain ⟨xs, hx, rfl⟩ := List.mem_map.mp hd
        rw [PyData.bulk]
        have := bulk_all (k := 12) (xs.map PyData.str) fun d hd => by
          obtain ⟨x, hxm, rfl⟩ := List.mem_map.mp hd
          exact ((h xs hx).2 x hxm).len
        rw [List.length_map] at this
        have := (h xs hx).1
        omega
      rw [List.length_map] at this
      omega
    exact sz (by omega)
/-! ### colours of one web -/
theorem two_cols {w : Wr} (ok : WOk w) {c c2 : Str → Bool} (hc : Proper (forestF w.ties) c) (h2 : Proper w.ties c2) : Proper w.ties c := by
  intro t ht
  have tk := ok.tie t ht
  have I := (came_inv ok.fwithin tk.hd).1
  have hgo : Go (forestF w.ties) t.hd (wayF (cameF (adjF (forestF w.ties)) t.hd) t.tl) t.tl := by
    refine way_go I (cinv_len ok.fwithin tk.hd I) ?_
    rw [came_keys ok.fwithin tk.hd, forest_conn]
    exact Conn.one ⟨t, ht, .inr ⟨rfl, rfl⟩⟩
  exact (ring_even hc hgo).mp ((ring_even (fun u hu => h2 u (forest_sub _ u hu)) hgo).mpr (h2 t ht))
section
variable {K : PySem.W.Frag} {H H' : Hp} {Q : VK} {a p lc ld m ln lt : Addr} {w : Wr}
theorem repr_d {d : PyData} (h : Dp K H (.ref a) d) (hd : HD d) (q : Q (.str d.shown) H) : cReprD K [.ref a] H Q := ⟨a, d, rfl, h, hd.sh, hd.nd, hd.ln, hd.dp, q⟩
theorem lenset {σ : L2.St} {te : TE} (h : te σ H fun x H1 => ∃ (l : Addr) (n : Nat) (z : Str), x = .ref l ∧ SqL K H1 l (List.replicate n (V.str z)) ∧ 0 < n ∧ Q (.int 1) H1) : tLenSetR K te σ H Q := h
def SetR (K : PySem.W.Frag) (x : V) (H : Hp) (Q : VK) : Prop := ∃ (l : Addr) (n : Nat) (z : Str), x = .ref l ∧ SqL K H l (List.replicate n (V.str z)) ∧ 0 < n ∧ Q (.int 1) H
theorem v_lenset {σ : L2.St} {te : TE} (h : te σ H fun x H1 => SetR K x H1 Q) : tLenSetR K te σ H Q := h
theorem bm_len {xs : List V} (h : H a = some (.lst xs)) (q : Q (.int xs.length) H) : cLenL K [.ref a] H Q := len_l h q
end
theorem st_law_good (a0 a1 a2 a3 : V) : L2.start n_law_good [a0, a1, a2, a3] = [some a0, some a1, some a2, some a3, none, none, none, none, none, none, none, none, none] := rfl
theorem pure_law_good {w : World} {K : PySem.W.Frag} {mg : Str → Option Value} (T : Tx w K mg) (vs : List V) (H : Hp) (Q : VK) (E : XK) (h : sp_law_good K vs H Q E) : t_law_good K { nx := fun _ H' => Q .non H', rt := Q } (start n_law_good vs) H := by
  show t_law_good K (D0 Q) (start n_law_good vs) H
  unfold t_law_good
  obtain ⟨p, lc, ld, m, ln, lt, a, w, n, xs, rfl, hd, ok, n0, n1, ⟨ea, hheld⟩, xl, na, q⟩ := h
  rw [st_law_good]
  have hw := hd.web
  have hm := hd.mod
  have ap := hd.ap
  have nl := ok.ok.len
  have nS : ∀ c, H c = none → c ∉ [p, lc, ld, m, ln, lt, a] := by
    intro c hc
    obtain ⟨dx, hp⟩ := hw.ob
    obtain ⟨_, _, f1, _⟩ := hw.td
    obtain ⟨_, _, f2, _⟩ := hm.td
    have a1 : c ≠ p := (ne_of_none hp hc).symm
    have a2 : c ≠ lc := (ne_of_none hw.cr hc).symm
    have a3 : c ≠ ld := (ne_of_none f1 hc).symm
    have a4 : c ≠ m := (ne_of_none hm.ob hc).symm
    have a5 : c ≠ ln := (ne_of_none hm.nm hc).symm
    have a6 : c ≠ lt := (ne_of_none f2 hc).symm
    have a7 : c ≠ a := (ne_of_none ea hc).symm
    simp [a1, a2, a3, a4, a5, a6, a7]
  have nd := nums_nodup ok.ok.srt
  have fl48 : (forestF w.ties).length ≤ 48 := by
    rw [← forest_filter nd]
    exact Nat.le_trans (List.length_filter_le _ _) ok.ok.tlen
  have pok : ∀ xs ∈ pcsF w.ties w.names, xs.length ≤ 16 ∧ ∀ x ∈ xs, okName x := by
    intro xs hxs
    obtain ⟨y, _, rfl⟩ := mem_pcsF.mp hxs
    exact ⟨Nat.le_trans (List.length_filter_le _ _) nl, fun x hx => ok.nm x (mem_clsF.mp hx).1⟩
  have pl16 : (pcsF w.ties w.names).length ≤ 16 := by
    have := pcs_len w.ties w.names w.names []
    simp at this
    exact Nat.le_trans this nl
  obtain ⟨c, hc⟩ := forest_proper w.ties
  walk_at "w"
  refine ⟨p, lc, ld, w, rfl, hw, ok.ok, fun mn H1 nmn s1 ⟨ys, y1, y2, y3⟩ hfr => ?_⟩
  have yown := hfr ys y2
  have yl : ys.length ≤ 16 := by rw [← y1, List.length_map] at pl16; exact pl16
  have hm1 := hm.up s1
  walk_at "w"
  refine ⟨m, ln, lt, w, rfl, hm1, ok.ok, ok.nm, fun mn2 H2 n2 s2 ⟨zs, z1, z2, z3⟩ => ?_⟩
  have dp1 : ∀ {H'}, Same H1 H' → Dp K H' (.ref mn) (.list ((pcsF w.ties w.names).map fun xs => .list (xs.map PyData.str))) := fun s => by
    have := dp_lists (K := K) (s _ _ y2) fun y hy => s _ _ (y3 y hy)
    rw [y1] at this
    exact this
  have dp2 : Dp K H2 (.ref mn2) (.list ((pcsF w.ties w.names).map fun xs => .list (xs.map PyData.str))) := by
    have := dp_lists (K := K) z2 z3
    rw [z1] at this
    exact this
  have shp := sh_lists fun xs hx => (pok xs hx).2
  refine neD_same (dp1 s2) dp2 shp (by decide) ?_
  have s12 := s1.trans s2
  have hw2 := hw.up s12
  walk_at "w"
  refine ⟨p, lc, ld, w, rfl, hw2, ok.ok, fun ch H3 n3 s3 ech => ?_⟩
  have s13 := s12.trans s3
  have hm3 := hm.up s13
  walk_at "w"
  refine ⟨m, ln, lt, ch, w, forestF w.ties, rfl, hm3, ok.ok, ech, fl48, forest_sub _, fun rd H4 n4 s4 hrd => ?_⟩
  rw [forest_roots] at hrd
  have s14 := s13.trans s4
  have s24 : Same H1 H4 := s2.trans (s3.trans s4)
  walk_at "w"
  let P : List (Addr × List Str) → L2.St → Hp → Prop := fun done σ H' => (∃ o7, σ = [some (.ref p), some (.ref m), some (.int n), some (.ref a), some (.ref mn), some (.ref ch), some (.ref rd), o7, none, none, none, none, none]) ∧ Same H4 H'
  refine f_list ys (fun y => V.ref y.1) P (.inl (.inl (s24 _ _ y2))) ⟨⟨_, rfl⟩, Same.refl _⟩ (fun _ _ _ H' _ h => .inl (.inl (h.2 _ _ (s24 _ _ y2)))) (fun done y rest σ H5 ey h => ?_) (fun σ H5 h => ?_)
  · obtain ⟨⟨o7, rfl⟩, s5⟩ := h
    have hy : y ∈ ys := by rw [ey]; simp
    have hy2 : y.2 ∈ pcsF w.ties w.names := by rw [← y1]; exact List.mem_map_of_mem hy
    obtain ⟨b, hb, e⟩ := mem_pcsF.mp hy2
    have ey5 := s5 _ _ (s24 _ _ (y3 y hy))
    have hrd5 : DSS H5 rd w.names (rootsF w.ties) := s5 _ _ hrd
    walk_at "w"
    refine v_lenset ?_
    walk_at "w"
    refine l_list y.2 V.str (fun x => some (.str (rootsF w.ties x))) (.inl (.inl ey5)) (by have := (pok _ hy2).1; omega) (fun x hx H6 s6 N k => ?_) (fun sl H6 ns s6 es => ?_)
    · have hxn : x ∈ w.names := by rw [← e] at hx; exact (mem_clsF.mp hx).1
      have hrd6 : DSS H6 rd w.names (rootsF w.ties) := s6 _ _ hrd5
      walk_at "w"
      refine hrd6.get ok.ok.nd hxn ?_
      exact k _ (Same.refl _)
    · have hrep : y.2.filterMap (fun x => some (V.str (rootsF w.ties x))) = List.replicate y.2.length (V.str (rootsF w.ties b)) := by
        rw [List.filterMap_eq_map']
        refine List.eq_replicate_iff.mpr ⟨List.length_map _, fun v hv => ?_⟩
        obtain ⟨x, hx, rfl⟩ := List.mem_map.mp hv
        rw [← e] at hx
        rw [(roots_iff w.ties b x).mpr (mem_clsF.mp hx).2]
      refine ⟨sl, y.2.length, _, rfl, .inl (.inl (by rw [es, hrep])), ?_, ?_⟩
      · rw [← e]
        exact List.length_pos_iff.mpr fun h => by
          have : b ∈ clsF w.ties w.names b := mem_clsF.mpr ⟨hb, .refl b⟩
          rw [h] at this
          exact nomatch this
      · walk_at "w"
        refine if_nF rfl ?_
        walk_at "w"
        exact ⟨⟨_, rfl⟩, s5.trans s6⟩
  · obtain ⟨⟨o7, rfl⟩, s5⟩ := h
    have s15 := s14.trans s5
    have hw5 := hw.up s15
    have hm5 := hm.up s15
    have ech5 := (s4.trans s5) _ _ ech
    walk_at "w"
    refine ⟨p, lc, ld, m, ln, lt, ch, w, c, rfl, Wd.of ap hw5 hm5, ok.ok, ech5, hc, fun H6 s6 => ?_⟩
    have hw6 := hw5.up s6
    walk_at "w"
    refine ⟨p, lc, ld, w, c, rfl, hw6, ok.ok, hc, fun to_ H7 s7 htold => ?_⟩
    have s17 := s15.trans (s6.trans s7)
    have hw7 := hw.up s17
    walk_at "w"
    refine if_dF (by intro e; cases e) ?_
    -- the end, when all that was told stands
    have last : ∀ (o7 : Option V) (b : Bool) (o10 o11 : V) (H8 : Hp), Same H7 H8 → (tSeq (tDrop (tBM K "list" rAppend (tVar 3) (tCons (tTup (tCons (tVar 4) (tCons (tCB (cReprD K) (tCons (tVar 4) tNil)) tNil))) tNil))) (tSeq (tDrop (tBM K "list" rAppend (tVar 3) (tCons (tTup (tCons (tVar 5) (tCons (tCB (cReprD K) (tCons (tVar 5) tNil)) tNil))) tNil))) (tRet (tCall (sp_law_ways_good K) [] E0 (tCons (tVar 0) (tCons (tVar 1) (tCons (tVar 4) (tCons (tVar 2) tNil)))))))) (D0 Q) [some (.ref p), some (.ref m), some (.int n), some (.ref a), some (.ref mn), some (.ref ch), some (.ref rd), o7, some (.bl b), some (.ref to_), some o10, some o11, none] H8 := by
      intro o7 b o10 o11 H8 s8
      have s18 := s17.trans s8
      have sF : Same H1 H8 := (s24.trans s5).trans ((s6.trans s7).trans s8)
      have ea8 := s18 _ _ ea
      have nmn : mn ∉ [p, lc, ld, m, ln, lt, a] := nS mn nmn
      have nch : ch ∉ [p, lc, ld, m, ln, lt, a] := nS ch (s12.free n3)
      have dpK : ∀ {H'}, Keep [p, lc, ld, m, ln, lt, a] H8 H' → Dp K H' (.ref mn) (.list ((pcsF w.ties w.names).map fun xs => .list (xs.map PyData.str))) := fun k => by
        have := dp_lists (K := K) (k _ _ nmn (sF _ _ y2)) fun y hy => k _ _ (nS _ (yown y hy)) (sF _ _ (y3 y hy))
        rw [y1] at this
        exact this
      have ech8 : H8 ch = some (.lst (((forestF w.ties).map (·.num)).map V.int)) := by rw [((s4.trans s5).trans ((s6.trans s7).trans s8)) _ _ ech, List.map_map]; rfl
      have dpC : ∀ {H'}, Keep [p, lc, ld, m, ln, lt, a] H8 H' → Dp K H' (.ref ch) (.list (((forestF w.ties).map (·.num)).map PyData.int)) := fun k => dp_ints (k _ _ nch ech8)
      have hdP := hd_lists pok pl16
      have hdC : HD (.list (((forestF w.ties).map (·.num)).map PyData.int)) := hd_ints (fun n hn => by
        obtain ⟨t, ht, rfl⟩ := List.mem_map.mp hn
        have tk := ok.ok.tie t (forest_sub _ t ht)
        have h1 := tk.low
        have h2 := tk.high
        have h3 := ok.gv
        omega) (by rw [List.length_map]; exact fl48)
      generalize hDP : PyData.list ((pcsF w.ties w.names).map fun xs => PyData.list (xs.map PyData.str)) = dP at dpK hdP
      generalize hDC : PyData.list (((forestF w.ties).map (·.num)).map PyData.int) = dC at dpC hdC
      have k1 : ∀ {H H' : Hp}, Keep [a] H H' → Keep [p, lc, ld, m, ln, lt, a] H H' := fun k => keep3 k (by simp)
      walk_at "w"
      refine repr_d (dpK (Keep.refl _ _)) hdP ?_
      walk_at "w"
      refine new_l (by simp) fun t1 H9 nt1 s9 et1 => ?_
      have nt1' : H t1 = none := s18.free nt1
      have t1a : t1 ≠ a := (ne_of_none ea nt1').symm
      have ea9 := s9 _ _ ea8
      walk_at "w"
      refine app_lo ea9 (by omega) fun H10 o10' e10 => ?_
      have k10 : Keep [a] H8 H10 := (Keep.of s9).trans o10'.keep
      walk_at "w"
      refine repr_d (dpC (k1 k10)) hdC ?_
      walk_at "w"
      refine new_l (by simp) fun t2 H11 nt2 s11 et2 => ?_
      have e11 := s11 _ _ e10
      have nt2' : H t2 = none := by
        by_cases z : H t2 = none
        · exact z
        · exfalso
          obtain ⟨o, ho⟩ := Option.ne_none_iff_exists'.mp z
          by_cases c : t2 = a
          · rw [c, e10] at nt2; cases nt2
          · have := k10 _ _ (by simpa using c) (s18 _ _ ho)
            rw [this] at nt2; cases nt2
      have t2a : t2 ≠ a := (ne_of_none ea nt2').symm
      walk_at "w"
      refine app_lo e11 (by rw [List.length_append, List.length_singleton]; omega) fun H12 o12 e12 => ?_
      have k12 : Keep [a] H8 H12 := k10.trans ((Keep.of s11).trans o12.keep)
      have hw8 := hw.up s18
      have hm8 := hm.up s18
      simp only [List.mem_cons, List.not_mem_nil, or_false, not_or] at na
      obtain ⟨a1, a2, a3, a4, a5, a6⟩ := na
      have hw12 : WebAt K H12 p lc ld w := hw8.keep k12 (by simpa using Ne.symm a1) (by simpa using Ne.symm a2) (by simpa using Ne.symm a3) fun z hz => by rw [List.mem_singleton.mp hz]; exact ⟨_, ea8, fun C dx fs e => by cases e⟩
      have hm12 : ModAt H12 m ln lt w := hm8.keep k12 (by simpa using Ne.symm a4) (by simpa using Ne.symm a5) (by simpa using Ne.symm a6) fun z hz => by rw [List.mem_singleton.mp hz]; exact ⟨_, ea8, fun xs e => by cases e⟩
      have yna : ∀ y ∈ ys, y.1 ∉ [a] := fun y hy h => nS _ (yown y hy) (by rw [List.mem_singleton.mp h]; simp)
      have mna : mn ∉ [a] := fun h => nmn (by rw [List.mem_singleton.mp h]; simp)
      walk_at "w"
      refine ⟨p, lc, ld, m, ln, lt, mn, w, n, rfl, Wd.of ap hw12 hm12, ok, n0, n1, ⟨ys, y1, k12 _ _ mna (sF _ _ y2), fun y hy => k12 _ _ (yna y hy) (sF _ _ (y3 y hy))⟩, fun H13 s13 => ?_⟩
      walk_at "w"
      have k13 : Keep [a] H8 H13 := k12.trans (Keep.of s13)
      have kF : Keep [a] H H13 := (Keep.of s18).trans k13
      refine q ((xs ++ [.ref t1]) ++ [.ref t2]) H13 kF ⟨s13 _ _ e12, fun v hv => ?_⟩ (by simp)
      rcases List.mem_append.mp hv with hv | hv
      · rcases List.mem_append.mp hv with hv | hv
        · obtain ⟨q', l, d, h1, h2, h3, h4, h5, h6, h7, h8⟩ := hheld v hv
          exact ⟨q', l, d, h1, h2, k1 kF _ _ h2 h3, h4, h5, h6, h7, fun H'' k'' => h8 H'' ((k1 kF).trans k'')⟩
        · rw [List.mem_singleton.mp hv]
          refine ⟨t1, mn, dP, rfl, nS _ nt1', ?_, hdP.sh, hdP.nd, hdP.ln, hdP.dp, fun H'' k'' => dpK ((k1 k13).trans k'')⟩
          refine s13 _ _ ?_
          rw [o12 _ t1a]
          refine s11 _ _ ?_
          rw [o10' _ t1a]
          exact et1
      · rw [List.mem_singleton.mp hv]
        refine ⟨t2, ch, dC, rfl, nS _ nt2', ?_, hdC.sh, hdC.nd, hdC.ln, hdC.dp, fun H'' k'' => dpC ((k1 k13).trans k'')⟩
        refine s13 _ _ ?_
        rw [o12 _ t2a]
        exact et2
    have mid : ∀ (o7 : Option V) (b : Bool), b = properB w.ties c → (tSeq (tIfS (tTest (tOp (rNeD K) (tCall (sp_forest K) [] E0 (tCons (tCall (sp_web_of K) [] E0 (tCons (tCall (sp_law_turned K) [] E0 (tCons (tCall (sp_web_lines K) [] E0 (tCons (tVar 0) tNil)) (tCons (tVar 2) (tCons (tC (.int 2)) tNil)))) tNil)) tNil)) (tVar 5))) (tRet (tC (.bl false))) tNext) (tSeq (tAsg (tCall (sp_web_of K) [] E0 (tCons (tCall (sp_law_turned K) [] E0 (tCons (tCall (sp_web_lines K) [] E0 (tCons (tVar 0) tNil)) (tCons (tVar 2) (tCons (tC (.int 0)) tNil)))) tNil)) (gName 10)) (tSeq (tAsg (tCall (sp_sides K) [] E0 (tCons (tVar 10) tNil)) (gName 11)) (tSeq (tIfS (tOr (tTest (tOp (rNeD K) (tCall (sp_pieces K) [] E0 (tCons (tVar 10) tNil)) (tVar 4))) (tTest (tOp rNe (tCB (rIsi K) (tCons (tVar 11) (tCons (tC (.ref (He.ga K "Sides"))) tNil))) (tVar 8)))) (tRet (tC (.bl false))) tNext) (tSeq (tIfS (tAnd (tB (tVar 8)) (tTest (tOp oNeDK (tFld K (tVar 11) "sides") (tFld K (tVar 9) "sides")))) (tRet (tC (.bl false))) tNext) (tSeq (tDrop (tBM K "list" rAppend (tVar 3) (tCons (tTup (tCons (tVar 4) (tCons (tCB (cReprD K) (tCons (tVar 4) tNil)) tNil))) tNil))) (tSeq (tDrop (tBM K "list" rAppend (tVar 3) (tCons (tTup (tCons (tVar 5) (tCons (tCB (cReprD K) (tCons (tVar 5) tNil)) tNil))) tNil))) (tRet (tCall (sp_law_ways_good K) [] E0 (tCons (tVar 0) (tCons (tVar 1) (tCons (tVar 4) (tCons (tVar 2) tNil))))))))))))) (D0 Q) [some (.ref p), some (.ref m), some (.int n), some (.ref a), some (.ref mn), some (.ref ch), some (.ref rd), o7, some (.bl b), some (.ref to_), none, none, none] H7 := by
      rintro o7 b rfl
      walk_at "w"
      refine ⟨p, lc, ld, w, rfl, hw7, ok, fun li H8 nli s8 eli => ?_⟩
      walk_at "w"
      refine ⟨li, w, n, 2, rfl, eli, ok, n0, n1, fun tu w' H9 ntu s9 ok' hnm hrel etu => ?_⟩
      rw [if_neg (by decide)] at hrel
      walk_at "w"
      refine ⟨tu, w', rfl, etu, ok', fun p' lc' ld' H10 s10 hw10' => ?_⟩
      walk_at "w"
      refine ⟨p', lc', ld', w', rfl, hw10', ok'.ok, fun ch2 H11 n11 s11 ech2 => ?_⟩
      have s711 := s8.trans (s9.trans (s10.trans s11))
      have ech11 : H11 ch = some (.lst (((forestF w.ties).map (·.num)).map V.int)) := by rw [((s4.trans s5).trans ((s6.trans s7).trans s711)) _ _ ech, List.map_map]; rfl
      have ech2' : H11 ch2 = some (.lst (((forestF w.ties).map (·.num)).map V.int)) := by rw [ech2, ← core_forest hrel, List.map_map]; rfl
      walk_at "w"
      refine neD_ints ech2' ech11 ?_
      rw [decide_eq_true rfl]
      have hw11 := hw7.up s711
      walk_at "w"
      refine ⟨p, lc, ld, w, rfl, hw11, ok, fun li H12 nli s12' eli => ?_⟩
      walk_at "w"
      refine ⟨li, w, n, 0, rfl, eli, ok, n0, n1, fun tu w2 H13 ntu s13' ok2 hnm2 hrel2 etu => ?_⟩
      rw [if_pos rfl] at hrel2
      walk_at "w"
      refine ⟨tu, w2, rfl, etu, ok2, fun p2 lc2 ld2 H14 s14' hw14 => ?_⟩
      have hcon := turned_conn hrel2
      -- a colouring for the turned web
      obtain ⟨c2, hc2, hp2, hcc⟩ : ∃ c2, Proper (forestF w2.ties) c2 ∧ properB w2.ties c2 = properB w.ties c ∧ (properB w.ties c = true → c2 = c) := by
        cases hb : properB w.ties c with
        | true =>
          have h2 := turned_proper hrel2 (properB_iff.mp hb)
          exact ⟨c, fun t ht => h2 t (forest_sub _ t ht), properB_iff.mpr h2, fun _ => rfl⟩
        | false =>
          obtain ⟨c2, h2⟩ := forest_proper w2.ties
          refine ⟨c2, h2, ?_, fun h => nomatch h⟩
          cases h3 : properB w2.ties c2 with
          | false => rfl
          | true =>
            have := properB_iff.mpr (two_cols ok.ok hc (turned_proper' hrel2 (properB_iff.mp h3)))
            rw [hb] at this
            exact nomatch this
      walk_at "w"
      refine ⟨p2, lc2, ld2, w2, c2, rfl, hw14, ok2.ok, hc2, fun th H15 s15' hth => ?_⟩
      rw [hp2] at hth
      have hw15 := hw14.up s15'
      walk_at "w"
      refine ⟨p2, lc2, ld2, w2, rfl, hw15, ok2.ok, fun pc H16 npc s16 ⟨us, u1, u2, u3⟩ _ => ?_⟩
      rw [hnm2, pcs_congr hcon] at u1
      have s716 := s711.trans (s12'.trans (s13'.trans (s14'.trans (s15'.trans s16))))
      have dpp : Dp K H16 (.ref pc) (.list ((pcsF w.ties w.names).map fun xs => .list (xs.map PyData.str))) := by
        have := dp_lists (K := K) u2 u3
        rw [u1] at this
        exact this
      walk_at "w"
      refine neD_same dpp (dp1 ((s24.trans s5).trans ((s6.trans s7).trans s716))) shp (by decide) ?_
      cases hb : properB w.ties c with
      | true =>
        rw [hb, if_pos rfl] at hth htold
        have e2 := hcc hb
        obtain ⟨dx1, d1, L1, t11, t12, t13, t14, t15⟩ := htold
        obtain ⟨dx2, d2, L2', t21, t22, t23, t24, t25⟩ := hth
        have t11' := s716 _ _ t11
        have t12' := s716 _ _ t12
        have t21' := s16 _ _ t21
        have t22' := s16 _ _ t22
        walk_at "w"
        refine isi_sides T t21' ?_
        walk_at "w"
        refine if_nF rfl ?_
        walk_at "w"
        refine fld_any t21' T.c_Sides T.n_Sides_sides rfl ?_
        walk_at "w"
        refine fld_any t11' T.c_Sides T.n_Sides_sides rfl ?_
        have lenE : L2'.length = L1.length := by
          have a1 := length_le_of_subset t23 (m := L1.map (·.1)) fun x hx => (t14 x).mpr (by have := (t24 x).mp hx; rw [hnm2] at this; exact this)
          have a2 := length_le_of_subset t13 (m := L2'.map (·.1)) fun x hx => (t24 x).mpr (by have := (t14 x).mp hx; rw [hnm2]; exact this)
          rw [List.length_map, List.length_map] at a1 a2
          omega
        refine .inl ⟨d2, d1, _, _, rfl, rfl, t22', t12', by rw [List.length_map, List.length_map, lenE], fun z hz => ?_, ?_⟩
        · obtain ⟨e, he, rfl⟩ := List.mem_map.mp hz
          refine ⟨?_, rfl⟩
          have hx : e.1 ∈ L1.map (·.1) := (t14 _).mpr (by have := (t24 e.1).mp (List.mem_map_of_mem he); rw [hnm2] at this; exact this)
          obtain ⟨e', he', e1⟩ := List.mem_map.mp hx
          have hv := valV_at (k := fun e : Str × Int => (Sum.inr e.1 : Key)) (v := fun e => V.int e.2) (keysI_nd t13) he'
          have val : e'.2 = e.2 := by
            rw [t15 e' he', t25 e he, hnm2, e2, col_congr hcon, e1]
          rw [e1, val] at hv
          exact hv
        · iterate 4 walk_at "v"
          exact last o7 true _ _ H16 s716
      | false =>
        rw [hb, if_neg Bool.false_ne_true] at hth htold
        obtain ⟨dx2, fs2, t21⟩ := hth
        have t21' := s16 _ _ t21
        walk_at "w"
        refine isi_odd T t21' ?_
        walk_at "w"
        refine if_nF rfl ?_
        iterate 12 walk_at "v"
        exact last o7 false _ _ H16 s716
    cases hb : properB w.ties c with
    | true =>
      rw [hb, if_pos rfl] at htold
      obtain ⟨dx1, d1, L1, t11, _⟩ := id htold
      walk_at "w"
      refine isi_sides T t11 ?_
      walk_at "w"
      refine if_nF rfl ?_
      walk_at "v"
      walk_at "v"
      exact mid _ true hb.symm
    | false =>
      rw [hb, if_neg Bool.false_ne_true] at htold
      obtain ⟨dx1, fs1, t11⟩ := id htold
      walk_at "w"
      refine isi_odd T t11 ?_
      walk_at "w"
      refine if_nF rfl ?_
      walk_at "v"
      walk_at "v"
      exact mid _ false hb.symm
theorem st_law_filled (a0 a1 a2 a3 : V) : L2.start n_law_filled [a0, a1, a2, a3] = [some a0, some a1, some a2, some a3, none, none, none] := rfl
theorem pure_law_filled {w : World} {K : PySem.W.Frag} {mg : Str → Option Value} (T : Tx w K mg) (vs : List V) (H : Hp) (Q : VK) (E : XK) (h : sp_law_filled K vs H Q E) : t_law_filled K { nx := fun _ H' => Q .non H', rt := Q } (start n_law_filled vs) H := by
  show t_law_filled K (D0 Q) (start n_law_filled vs) H
  unfold t_law_filled
  obtain ⟨p, lc, ld, m, ln, lt, po, w, ps, n, rfl, hd, ok, ep, ⟨pl, pnd, pn⟩, hin, npo, q⟩ := h
  rw [st_law_filled]
  have hw := hd.web
  have hm := hd.mod
  have ap := hd.ap
  have nl := ok.len
  have tl := ok.tlen
  walk_at "w"
  refine l_filter ps V.str (fun x => !decide (x ∈ w.names)) (.inl (.inl ep)) (by omega) (fun x hx H1 s1 N k1 k0 => ?_) (fun fr H1 nf s1 ef => ?_)
  · have hm1 := hm.up s1
    walk_at "w"
    refine hm1.g_names ?_
    refine hm1.in_names ?_
    walk_at "w"
    refine if_n (fun c1 => ?_) (fun c1 => ?_)
    · walk_at "w"
      exact k1 _ (Same.refl _) (by rw [decide_eq_false c1]; rfl)
    · exact k0 _ (Same.refl _) (by rw [decide_eq_true c1]; rfl)
  have fin : ∀ x ∈ ps.filter (fun x => !decide (x ∈ w.names)), x ∈ ps ∧ x ∉ w.names := fun x hx => by
    obtain ⟨h1, h2⟩ := List.mem_filter.mp hx
    exact ⟨h1, fun h => by rw [decide_eq_true h] at h2; exact nomatch h2⟩
  have fl6 : 22 ≤ (ps.filter fun x => !decide (x ∈ w.names)).length + w.names.length := by
    have h1 := length_le_of_subset pnd (m := (ps.filter fun x => !decide (x ∈ w.names)) ++ w.names) fun x hx => by
      by_cases c : x ∈ w.names
      · exact List.mem_append_right _ c
      · exact List.mem_append_left _ (List.mem_filter.mpr ⟨hx, by rw [decide_eq_false c]; rfl⟩)
    rw [List.length_append] at h1
    omega
  have fnd : (ps.filter fun x => !decide (x ∈ w.names)).Nodup := pnd.sublist List.filter_sublist
  generalize ps.filter (fun x => !decide (x ∈ w.names)) = fs at ef fin fl6 fnd
  have hm1 := hm.up s1
  have hw1 := hw.up s1
  walk_at "w"
  refine hm1.g_names ?_
  walk_at "w"
  refine hm1.len_names ?_
  walk_at "w"
  refine sl_l (.inl (.inl ef)) fun sl H2 nsl s2 es => ?_
  have e16 : (16 : Int) - (w.names.length : Int) = ((16 - w.names.length : Nat) : Int) := by omega
  rw [e16, cutV_take, ← List.map_take] at es
  have tin : ∀ x ∈ fs.take (16 - w.names.length), x ∈ ps ∧ x ∉ w.names := fun x hx => fin x (List.mem_of_mem_take hx)
  have tnd : (fs.take (16 - w.names.length)).Nodup := fnd.sublist (List.take_sublist _ _)
  have tln : (fs.take (16 - w.names.length)).length = 16 - w.names.length := by rw [List.length_take]; omega
  generalize fs.take (16 - w.names.length) = gs at es tin tnd tln
  have s12 := s1.trans s2
  have hm2 := hm.up s12
  have hw2 := hw.up s12
  have sl6 : sl ∉ [p, lc, ld, m, ln, lt] := by
    obtain ⟨dx, hp⟩ := hw1.ob
    obtain ⟨_, _, f1, _⟩ := hw1.td
    obtain ⟨_, _, f2, _⟩ := hm1.td
    have a1 : sl ≠ p := (ne_of_none hp nsl).symm
    have a2 : sl ≠ lc := (ne_of_none hw1.cr nsl).symm
    have a3 : sl ≠ ld := (ne_of_none f1 nsl).symm
    have a4 : sl ≠ m := (ne_of_none hm1.ob nsl).symm
    have a5 : sl ≠ ln := (ne_of_none hm1.nm nsl).symm
    have a6 : sl ≠ lt := (ne_of_none f2 nsl).symm
    simp [a1, a2, a3, a4, a5, a6]
  let P : List Str → L2.St → Hp → Prop := fun done σ H' => (∃ o5, σ = [some (.ref p), some (.ref m), some (.ref po), some (.int n), some (.ref fr), o5, none]) ∧ Keep [p, lc, ld, m, ln, lt] H2 H' ∧ WebAt K H' p lc ld { w with names := w.names ++ done } ∧ ModAt H' m ln lt { w with names := w.names ++ done }
  have okd : ∀ done rest, gs = done ++ rest → WOk { w with names := w.names ++ done } := by
    intro done rest e
    refine ⟨?_, ?_, ok.srt, ok.tlen, fun t ht => (ok.tie t ht).mono (fun x hx => List.mem_append_left _ hx) (Int.le_refl _), ok.g0⟩
    · rw [e] at tnd
      refine List.nodup_append.mpr ⟨ok.nd, (List.nodup_append.mp tnd).1, fun x hx y hy e2 => ?_⟩
      exact (tin y (by rw [e]; exact List.mem_append_left _ hy)).2 (e2 ▸ hx)
    · have := congrArg List.length e
      rw [List.length_append] at this
      show (w.names ++ done).length ≤ 16
      rw [List.length_append]
      omega
  refine f_list gs V.str P (.inl (.inl es)) ⟨⟨_, rfl⟩, Keep.refl _ _, by rw [List.append_nil]; exact hw2, by rw [List.append_nil]; exact hm2⟩ (fun _ _ _ H' _ h => .inl (.inl (h.2.1 _ _ sl6 es))) (fun done x rest σ H3 ey h => ?_) (fun σ H3 h => ?_)
  · obtain ⟨⟨o5, rfl⟩, k3, hw3, hm3⟩ := h
    obtain ⟨hxp, hxn⟩ := tin x (by rw [ey]; simp)
    have hxd : x ∉ done := by
      rw [ey] at tnd
      exact fun h => (List.nodup_append.mp tnd).2.2 x h x List.mem_cons_self rfl
    have dl := congrArg List.length ey
    rw [List.length_append, List.length_cons] at dl
    walk_at "w"
    refine ⟨p, lc, ld, _, x, rfl, hw3, pn x hxp, ?_, ?_, fun H4 k4 hw4 => ?_⟩
    · show x ∉ w.names ++ done
      rw [List.mem_append]
      exact fun h => h.elim hxn hxd
    · show (w.names ++ done).length < 16
      rw [List.length_append]
      omega
    · have k4' : Keep [p, lc, ld] H3 H4 := k1in3 k4 (by simp)
      have hm4 := mod_keep ap hw3 hm3 k4'
      walk_at "w"
      refine hm4.g_names ?_
      refine bm_l hm4.nm ?_
      walk_at "w"
      refine app_lo hm4.nm (by rw [List.length_map]; show (w.names ++ done).length ≤ 100000; rw [List.length_append]; omega) fun H5 o5' e5 => ?_
      have hm5 : ModAt H5 m ln lt { w with names := (w.names ++ done) ++ [x] } := by
        have e : (w.names ++ done).map V.str ++ [V.str x] = ((w.names ++ done) ++ [x]).map V.str := by rw [List.map_append (l₁ := w.names ++ done)]; rfl
        have e5 : H5 ln = some (.lst ((w.names ++ done).map V.str ++ [V.str x])) := e5
        rw [e] at e5
        obtain ⟨zs, z1, z2, z3⟩ := hm4.td
        exact ⟨by rw [o5' _ hm4.m_ln]; exact hm4.ob, e5, zs, z1, by rw [o5' _ hm4.lt_ln]; exact z2, fun z hz => by rw [o5' _ (ne_obj (z3 z hz) hm4.nm (by intro e; cases e))]; exact z3 z hz⟩
      have hw5 := web_keep ap hw4 hm4 (keep3 o5'.keep (by simp))
      walk_at "w"
      refine ⟨⟨_, rfl⟩, k3.trans ((up6 k4').trans (keep3 o5'.keep (by simp))), ?_, ?_⟩
      · rw [← List.append_assoc]
        exact hw5
      · rw [← List.append_assoc]
        exact hm5
  · obtain ⟨⟨o5, rfl⟩, k3, hw3, hm3⟩ := h
    have ok3 := okd gs [] (by simp)
    have nin : ∀ x ∈ w.names ++ gs, x ∈ ps := fun x hx => (List.mem_append.mp hx).elim (hin x) fun h => (tin x h).1
    have n16 : (w.names ++ gs).length = 16 := by rw [List.length_append, tln]; omega
    generalize hw0 : ({ w with names := w.names ++ gs } : Wr) = w3 at hw3 hm3 ok3
    have f1 : w3.names = w.names ++ gs := by rw [← hw0]
    have f2 : w3.ties = w.ties := by rw [← hw0]
    have f3 : w3.given = w.given := by rw [← hw0]
    walk_at "w"
    refine hm3.g_ties ?_
    walk_at "w"
    refine hm3.len_ties ?_
    rw [f2]
    walk_at "w"
    let P2 : Nat → L2.St → Hp → Prop := fun i σ H' => (∃ o6, σ = [some (.ref p), some (.ref m), some (.ref po), some (.int n), some (.ref fr), o5, o6]) ∧ Keep [p, lc, ld, m, ln, lt] H2 H' ∧ ∃ w', Wd K H' p lc ld m ln lt w' ∧ WOk w' ∧ w'.names = w.names ++ gs ∧ w'.given = w.given + i ∧ w'.ties.length = w.ties.length + i
    refine f_rng (n := 48 - w.ties.length) P2 (by omega) (by omega) ⟨⟨_, rfl⟩, k3, w3, Wd.of ap hw3 hm3, ok3, f1, by rw [f3]; simp, by rw [f2]; rfl⟩ (fun i σ H4 hi h => ?_) (fun σ H4 h => ?_)
    · obtain ⟨⟨o6, rfl⟩, k4, w', hd', ok', g1, g2, g3⟩ := h
      walk_at "w"
      refine ⟨p, lc, ld, m, ln, lt, w', n + i, i, rfl, by omega, by omega, hd', ok', by rw [g1, n16]; decide, by omega, fun w2 H5 k5 hd5 ok5 h1 h2 h3 => ?_⟩
      walk_at "w"
      exact ⟨⟨_, rfl⟩, k4.trans k5, w2, hd5, ok5, by rw [h1, g1], by rw [h2, g2]; omega, by rw [h3, g3]; omega⟩
    · obtain ⟨⟨o6, rfl⟩, k4, w', hd', ok', g1, g2, g3⟩ := h
      walk_at "w"
      exact q w' H4 ((Keep.of s12).trans k4) hd' ok' (fun x hx => nin x (by rw [g1] at hx; exact hx)) (by rw [g2]; omega)
section
variable {K : PySem.W.Frag} {H H' : Hp} {Q : VK} {a : Addr} {S : List Addr} {xs : List V}
theorem sum_i {ns : List Int} (h : SqL K H a (ns.map V.int)) (q : Q (.int ns.sum) H) : rSum K [.ref a] H Q := ⟨a, ns, rfl, h, q⟩
theorem HeldAt.keep {S2 : List Addr} (h : HeldAt K H S a xs) (k : Keep S2 H H') (ha : a ∉ S2) (hs : ∀ c ∈ S2, c ∈ S) : HeldAt K H' S a xs := by
  obtain ⟨h1, h2⟩ := h
  refine ⟨k _ _ ha h1, fun v hv => ?_⟩
  obtain ⟨q', l, d, e1, e2, e3, e4, e5, e6, e7, e8⟩ := h2 v hv
  exact ⟨q', l, d, e1, e2, k _ _ (fun m => e2 (hs _ m)) e3, e4, e5, e6, e7, fun H'' k'' => e8 H'' ((k.mono hs).trans k'')⟩
end
theorem st_law (a0 : V) : L2.start n_law [a0] = [some a0, none, none, none, none, none, none, none, none, none] := rfl
theorem pure_law {w : World} {K : PySem.W.Frag} {mg : Str → Option Value} (T : Tx w K mg) (vs : List V) (H : Hp) (Q : VK) (E : XK) (h : sp_law K vs H Q E) : t_law K { nx := fun _ H' => Q .non H', rt := Q } (start n_law vs) H := by
  show t_law K (D0 Q) (start n_law vs) H
  unfold t_law
  obtain ⟨a, ns, rfl, hsq, nl, q⟩ := h
  rw [st_law]
  walk_at "w"
  refine sl_l hsq fun ce H1 nce s1 ece => ?_
  rw [show (63 : Int) = ((63 : Nat) : Int) from rfl, cutV_take, List.take_of_length_le (by rw [List.length_map]; exact nl)] at ece
  walk_at "w"
  refine sl_l (.inl (.inl ece)) fun c3 H2 nc3 s2 ec3 => ?_
  rw [show (3 : Int) = ((3 : Nat) : Int) from rfl, cutV_take, ← List.map_take] at ec3
  walk_at "w"
  refine sum_i (.inl (.inl ec3)) ?_
  walk_at "w"
  refine ⟨_, rfl, fun po ps H3 npo s3 epo pok => ?_⟩
  have ece3 := (s2.trans s3) _ _ ece
  have ncp : po ≠ ce := (ne_of_none (s2 _ _ ece) npo).symm
  walk_at "w"
  intro p dx np ndx npd
  have sm1 : Same H3 (upd (upd H3 dx (.own p)) p (.ins (He.ga K "Web") dx [])) := same_own (same_new ndx) np
  refine ⟨p, dx, rfl, upd_same, fun lc ld H4 nlc nld k4 hw4 => ⟨rfl, ?_⟩⟩
  have s4 : Same H3 H4 := fun c o h => k4 c o (by rw [List.mem_singleton]; exact ne_of_none h np) (sm1 _ _ h)
  have n1 : H3 lc = none := sm1.free nlc
  have n2 : H3 ld = none := sm1.free nld
  clear sm1 k4 nlc nld
  walk_at "w"
  refine ⟨rfl, fun m ln lt H5 nm nn nt s5 hm5 n4 => ?_⟩
  have hw5 := hw4.up s5
  have ap : Ap lc ld m ln lt := by
    obtain ⟨_, _, f1, _⟩ := hw4.td
    exact ⟨ne_of_none hw4.cr nn, ne_of_none f1 nm, ne_of_none f1 nt, n4⟩
  walk_at "w"
  refine new_l (by simp) fun hl H6 nhl s6 ehl => ?_
  have hw6 := hw5.up s6
  have hm6 := hm5.up s6
  have s36 : Same H3 H6 := s4.trans (s5.trans s6)
  have hl6 : hl ∉ [p, lc, ld, m, ln, lt] := by
    obtain ⟨dx, hp⟩ := hw5.ob
    obtain ⟨_, _, f1, _⟩ := hw5.td
    obtain ⟨_, _, f2, _⟩ := hm5.td
    have a1 : hl ≠ p := (ne_of_none hp nhl).symm
    have a2 : hl ≠ lc := (ne_of_none hw5.cr nhl).symm
    have a3 : hl ≠ ld := (ne_of_none f1 nhl).symm
    have a4 : hl ≠ m := (ne_of_none hm5.ob nhl).symm
    have a5 : hl ≠ ln := (ne_of_none hm5.nm nhl).symm
    have a6 : hl ≠ lt := (ne_of_none f2 nhl).symm
    simp [a1, a2, a3, a4, a5, a6]
  -- what was there before the web stands aside
  have aside : ∀ c o, H3 c = some o → c ∉ [p, lc, ld, m, ln, lt, hl] := by
    intro c o hc
    have a1 : c ≠ p := ne_of_none hc np
    have a2 : c ≠ lc := ne_of_none hc n1
    have a3 : c ≠ ld := ne_of_none hc n2
    have h4 := s4 _ _ hc
    have a4 : c ≠ m := ne_of_none h4 nm
    have a5 : c ≠ ln := ne_of_none h4 nn
    have a6 : c ≠ lt := ne_of_none h4 nt
    have a7 : c ≠ hl := ne_of_none (s5 _ _ h4) nhl
    simp [a1, a2, a3, a4, a5, a6, a7]
  have ce7 := aside _ _ ece3
  have po7 := aside _ _ epo
  have po6 : po ∉ [p, lc, ld, m, ln, lt] := fun h => po7 (by simp only [List.mem_cons, List.not_mem_nil, or_false] at h ⊢; rcases h with h | h | h | h | h | h <;> simp [h])
  have up7 : ∀ {H H' : Hp}, Keep [p, lc, ld, m, ln, lt] H H' → Keep [p, lc, ld, m, ln, lt, hl] H H' := fun k => k.mono fun c h => by simp only [List.mem_cons, List.not_mem_nil, or_false] at h ⊢; rcases h with h | h | h | h | h | h <;> simp [h]
  have in7 : ∀ c ∈ [p, lc, ld, m, ln, lt], c ∈ [p, lc, ld, m, ln, lt, hl] := fun c h => by simp only [List.mem_cons, List.not_mem_nil, or_false] at h ⊢; rcases h with h | h | h | h | h | h <;> simp [h]
  walk_at "w"
  let P : List Int → L2.St → Hp → Prop := fun done σ H' => (∃ o6 o7 o8, σ = [some (.ref a), some (.ref ce), some (.ref po), some (.ref p), some (.ref m), some (.ref hl), o6, o7, o8, none]) ∧ Keep [p, lc, ld, m, ln, lt, hl] H6 H' ∧
    ∃ w hs, Wd K H' p lc ld m ln lt w ∧ WOk w ∧ (∀ x ∈ w.names, x ∈ ps) ∧ w.given ≤ done.length ∧ HeldAt K H' [p, lc, ld, m, ln, lt, hl] hl hs ∧ hs.length ≤ 2 * done.length
  have ce6 := s36 _ _ ece3
  have po6' := s36 _ _ epo
  obtain ⟨pl, pnd, pn⟩ := id pok
  have wk0 : WOk (⟨[], [], 0⟩ : Wr) := ⟨.nil, Nat.zero_le _, .nil, Nat.zero_le _, fun t ht => (nomatch ht), Int.le_refl _⟩
  refine f_enum ns V.int P (.inl (.inl ce6)) ⟨⟨_, _, _, rfl⟩, Keep.refl _ _, ⟨[], [], 0⟩, [], Wd.of ap hw6 hm6, wk0, fun x hx => (nomatch hx), Int.le_refl _, ⟨ehl, fun v hv => (nomatch hv)⟩, Nat.zero_le _⟩ (fun _ _ _ H' _ h => .inl (.inl (h.2.1 _ _ ce7 ce6))) (fun done x rest σ H7 Tp H8 ey h nT s8 eT => ?_) (fun σ H7 h => ?_)
  · obtain ⟨⟨o6, o7, o8, rfl⟩, k7, w, hs, hd7, ok7, hin, hg, hh, hhl⟩ := h
    have dl : done.length ≤ 62 := by
      have := congrArg List.length ey
      rw [List.length_append, List.length_cons] at this
      omega
    have hd8 := hd7.up s8
    have hh8 := hh.keep (Keep.of (S := []) s8) (fun h => nomatch h) (fun c h => nomatch h)
    have k8 := k7.trans (Keep.of s8)
    walk_at "w"
    refine ⟨p, lc, ld, m, ln, lt, po, w, ps, x, done.length, rfl, by omega, by omega, hd8, ok7, k8 _ _ po7 po6', pok, hin, po6, fun w' H9 k9 hd9 ok9 hin9 hg9 => ?_⟩
    have hh9 := hh8.keep k9 hl6 in7
    have k69 := k8.trans (up7 k9)
    have hgl : w'.given ≤ (done ++ [x]).length := by rw [List.length_append, List.length_singleton]; omega
    walk_at "w"
    refine ⟨x, done.length, 64, rfl, by omega, by omega, by decide, by decide, fun n n0 n1 => ?_⟩
    have stand : ∀ (H' : Hp) (hs' : List V) (o8 : Option V), Keep [p, lc, ld, m, ln, lt, hl] H6 H' → Wd K H' p lc ld m ln lt w' → HeldAt K H' [p, lc, ld, m, ln, lt, hl] hl hs' → hs'.length ≤ 2 * (done ++ [x]).length →
        (tIfS (tNot (tB (tCall (sp_law_stands K) [] E0 (tCons (tVar 3) (tCons (tVar 4) tNil))))) (tRet (tC (.bl false))) tNext) (dFor (P (done ++ [x])) (dSeq (tSeq (tAsg (tCall (sp_law_draw K) [] E0 (tCons (tCB (rSum K) (tCons (tSl (rSlL K) (tVar 1) tNoPart (tPart (tC (.int 2)))) tNil)) (tCons (tC (.int 3)) (tCons (tC (.int 66)) tNil)))) (gName 8)) (tSeq (tIfS (tAnd (tTest (tOp rEq (tOp oMod (tVar 8) (tC (.int 4))) (tC (.int 1)))) (tNot (tB (tCall (sp_law_filled K) [] E0 (tCons (tVar 3) (tCons (tVar 4) (tCons (tVar 2) (tCons (tVar 8) tNil)))))))) (tRet (tC (.bl false))) tNext) (tSeq (tIfS (tNot (tB (tCall (sp_law_good K) [] E0 (tCons (tVar 3) (tCons (tVar 4) (tCons (tCall (sp_law_draw K) [] E0 (tCons (tCB (rSum K) (tCons (tSl (rSlL K) (tVar 1) tNoPart (tPart (tC (.int 5)))) tNil)) (tCons (tC (.int 6)) (tCons (tC (.int 65)) tNil)))) (tCons (tVar 5) tNil))))))) (tRet (tC (.bl false))) tNext) (tRet (tOp (rEqD K) (tLc (iList K (tVar 5)) (gName 9) (tTest (tOp rNe (tCB (cReprD K) (tCons (tOp (rIxT K) (tVar 9) (tC (.int 0))) tNil)) (tOp (rIxT K) (tVar 9) (tC (.int 1))))) (tVar 9) [9]) (tLst (tNil))))))) (D0 Q))) [some (.ref a), some (.ref ce), some (.ref po), some (.ref p), some (.ref m), some (.ref hl), some (.int done.length), some (.int x), o8, none] H' := by
      intro H' hs' o8 kk hdd hhh hll
      walk_at "w"
      refine ⟨p, lc, ld, m, ln, lt, w', rfl, hdd, ok9, fun x hx => pn x (hin9 x hx), fun H10 s10 => ?_⟩
      walk_at "w"
      exact ⟨⟨_, _, _, rfl⟩, kk.trans (Keep.of s10), w', hs', hdd.up s10, ok9, hin9, hgl, hhh.keep (Keep.of (S := []) s10) (fun h => nomatch h) (fun c h => nomatch h), hll⟩
    walk_at "w"
    refine if_d (fun c1 => ?_) (fun c1 => ?_)
    · walk_at "w"
      refine ⟨p, lc, ld, m, ln, lt, hl, w', n, hs, rfl, hd9, ⟨ok9, fun x hx => pn x (hin9 x hx), by omega⟩, n0, n1, hh9, by omega, hl6, fun hs' H10 k10 hh10 hl10 => ?_⟩
      have hd10 : Wd K H10 p lc ld m ln lt w' := by
        simp only [List.mem_cons, List.not_mem_nil, or_false, not_or] at hl6
        obtain ⟨a1, a2, a3, a4, a5, a6⟩ := hl6
        exact Wd.of ap (hd9.web.keep k10 (by simpa using Ne.symm a1) (by simpa using Ne.symm a2) (by simpa using Ne.symm a3) fun z hz => by rw [List.mem_singleton.mp hz]; exact ⟨_, hh9.1, fun C dx fs e => by cases e⟩)
          (hd9.mod.keep k10 (by simpa using Ne.symm a4) (by simpa using Ne.symm a5) (by simpa using Ne.symm a6) fun z hz => by rw [List.mem_singleton.mp hz]; exact ⟨_, hh9.1, fun xs e => by cases e⟩)
      iterate 4 walk_at "v"
      exact stand H10 hs' _ (k69.trans (keep3 k10 (by simp))) hd10 hh10 (by rw [List.length_append, List.length_singleton]; omega)
    · iterate 3 walk_at "v"
      exact stand H9 hs _ k69 hd9 hh9 (by rw [List.length_append, List.length_singleton]; omega)
  · obtain ⟨⟨o6, o7, o8, rfl⟩, k7, w, hs, hd7, ok7, hin, hg, hh, hhl⟩ := h
    have ce7' := k7 _ _ ce7 ce6
    have fin : ∀ (w : Wr) (n : Int) (H8 : Hp), Keep [p, lc, ld, m, ln, lt, hl] H6 H8 → Wd K H8 p lc ld m ln lt w → WOk w → (∀ x ∈ w.names, x ∈ ps) → w.given ≤ 111 → HeldAt K H8 [p, lc, ld, m, ln, lt, hl] hl hs →
        (tSeq (tIfS (tNot (tB (tCall (sp_law_good K) [] E0 (tCons (tVar 3) (tCons (tVar 4) (tCons (tCall (sp_law_draw K) [] E0 (tCons (tCB (rSum K) (tCons (tSl (rSlL K) (tVar 1) tNoPart (tPart (tC (.int 5)))) tNil)) (tCons (tC (.int 6)) (tCons (tC (.int 65)) tNil)))) (tCons (tVar 5) tNil))))))) (tRet (tC (.bl false))) tNext) (tRet (tOp (rEqD K) (tLc (iList K (tVar 5)) (gName 9) (tTest (tOp rNe (tCB (cReprD K) (tCons (tOp (rIxT K) (tVar 9) (tC (.int 0))) tNil)) (tOp (rIxT K) (tVar 9) (tC (.int 1))))) (tVar 9) [9]) (tLst (tNil))))) (D0 Q) [some (.ref a), some (.ref ce), some (.ref po), some (.ref p), some (.ref m), some (.ref hl), o6, o7, some (.int n), none] H8 := by
      intro w n H8 k8 hd8 ok8 hin8 hg8 hh8
      have ce8 := k8 _ _ ce7 ce6
      walk_at "w"
      refine sl_l (.inl (.inl ce8)) fun c5 H9 nc5 s9 ec5 => ?_
      rw [show (5 : Int) = ((5 : Nat) : Int) from rfl, cutV_take, ← List.map_take] at ec5
      walk_at "w"
      refine sum_i (.inl (.inl ec5)) ?_
      walk_at "w"
      refine ⟨_, 6, 65, rfl, by decide, by decide, by decide, by decide, fun n n0 n1 => ?_⟩
      have hh9 := hh8.keep (Keep.of (S := []) s9) (fun h => nomatch h) (fun c h => nomatch h)
      walk_at "w"
      refine ⟨p, lc, ld, m, ln, lt, hl, w, n, hs, rfl, hd8.up s9, ⟨ok8, fun x hx => pn x (hin8 x hx), by omega⟩, n0, n1, hh9, by omega, hl6, fun hs' H10 k10 hh10 hl10 => ?_⟩
      obtain ⟨h101, h102⟩ := id hh10
      walk_at "w"
      refine l_list hs' id (fun _ => none) (.inl (.inl (by rw [List.map_id]; exact h101))) (by omega) (fun v hv H11 s11 N k => ?_) (fun d H11 nd s11 ed => ?_)
      · obtain ⟨q', l, d, rfl, e2, e3, e4, e5, e6, e7, e8⟩ := h102 v hv
        have e3' := s11 _ _ e3
        walk_at "w"
        refine ix_t (n := 0) e3' rfl ?_
        walk_at "w"
        refine repr_d (e8 H11 (Keep.of s11)) ⟨e4, e5, e6, e7⟩ ?_
        walk_at "w"
        refine ix_t (n := 1) e3' rfl ?_
        walk_at "w"
        refine if_nF rfl ?_
        exact k _ (Same.refl _)
      · have ed' : H11 d = some (.lst []) := by rw [ed]; congr 2; rw [List.filterMap_eq_nil_iff]; exact fun _ _ => rfl
        walk_at "w"
        refine new_l (by simp) fun e H12 ne s12 ee => ?_
        refine eqD_nil (s12 _ _ ed') ee ?_
        walk_at "w"
        exact q H12
    walk_at "w"
    refine sl_l (.inl (.inl ce7')) fun c2 H8 nc2 s8 ec2 => ?_
    rw [show (2 : Int) = ((2 : Nat) : Int) from rfl, cutV_take, ← List.map_take] at ec2
    have hd8 := hd7.up s8
    have hh8 := hh.keep (Keep.of (S := []) s8) (fun h => nomatch h) (fun c h => nomatch h)
    have k8 := k7.trans (Keep.of s8)
    walk_at "w"
    refine sum_i (.inl (.inl ec2)) ?_
    walk_at "w"
    refine ⟨_, 3, 66, rfl, by decide, by decide, by decide, by decide, fun n n0 n1 => ?_⟩
    have gg : w.given ≤ 63 := by omega
    walk_at "w"
    refine if_d (fun c1 => ?_) (fun c1 => ?_)
    · walk_at "w"
      refine ⟨p, lc, ld, m, ln, lt, po, w, ps, n, rfl, hd8, ok7, k8 _ _ po7 po6', pok, hin, po6, fun w' H9 k9 hd9 ok9 hin9 hg9 => ?_⟩
      iterate 4 walk_at "v"
      exact fin w' n H9 (k8.trans (up7 k9)) hd9 ok9 hin9 (by omega) (hh8.keep k9 hl6 in7)
    · iterate 2 walk_at "v"
      exact fin w n H8 k8 hd8 ok7 hin (by omega) hh8
theorem len_is_whole {K : PySem.W.Frag} : ∀ vs H Q E, sp_is_whole K vs H Q E → vs.length = 1 := by
  intro vs H Q E h
  obtain ⟨_, rfl, _⟩ := h
  rfl
theorem len_is_among {K : PySem.W.Frag} : ∀ vs H Q E, sp_is_among K vs H Q E → vs.length = 3 := by
  intro vs H Q E h
  obtain ⟨_, _, _, rfl, _⟩ := h
  rfl
theorem len_are_signs {K : PySem.W.Frag} : ∀ vs H Q E, sp_are_signs K vs H Q E → vs.length = 2 := by
  intro vs H Q E h
  obtain ⟨_, _, rfl, _⟩ := h
  rfl
theorem len_is_name {K : PySem.W.Frag} : ∀ vs H Q E, sp_is_name K vs H Q E → vs.length = 1 := by
  intro vs H Q E h
  obtain ⟨_, rfl, _⟩ := h
  rfl
theorem len_number_text {K : PySem.W.Frag} : ∀ vs H Q E, sp_number_text K vs H Q E → vs.length = 1 := by
  intro vs H Q E h
  obtain ⟨_, rfl, _⟩ := h
  rfl
theorem len_number_of {K : PySem.W.Frag} : ∀ vs H Q E, sp_number_of K vs H Q E → vs.length = 1 := by
  intro vs H Q E h
  obtain ⟨_, rfl, _⟩ := h
  rfl
theorem len_words_of {K : PySem.W.Frag} : ∀ vs H Q E, sp_words_of K vs H Q E → vs.length = 1 := by
  intro vs H Q E h
  obtain ⟨_, rfl, _⟩ := h
  rfl
theorem len_Way_init {K : PySem.W.Frag} : ∀ vs H Q E, sp_Way_init K vs H Q E → vs.length = 2 := by
  intro vs H Q E h
  obtain ⟨_, _, _, _, rfl, _⟩ := h
  rfl
theorem len_Border_init {K : PySem.W.Frag} : ∀ vs H Q E, sp_Border_init K vs H Q E → vs.length = 2 := by
  intro vs H Q E h
  obtain ⟨_, _, _, _, rfl, _⟩ := h
  rfl
theorem len_Sides_init {K : PySem.W.Frag} : ∀ vs H Q E, sp_Sides_init K vs H Q E → vs.length = 2 := by
  intro vs H Q E h
  obtain ⟨_, _, _, _, rfl, _⟩ := h
  rfl
theorem len_OddRing_init {K : PySem.W.Frag} : ∀ vs H Q E, sp_OddRing_init K vs H Q E → vs.length = 2 := by
  intro vs H Q E h
  obtain ⟨_, _, _, _, rfl, _⟩ := h
  rfl
theorem len_ends_by {K : PySem.W.Frag} : ∀ vs H Q E, sp_ends_by K vs H Q E → vs.length = 1 := by
  intro vs H Q E h
  obtain ⟨_, _, rfl, _⟩ := h
  rfl
theorem len_came_from {K : PySem.W.Frag} : ∀ vs H Q E, sp_came_from K vs H Q E → vs.length = 2 := by
  intro vs H Q E h
  obtain ⟨_, _, _, _, rfl, _⟩ := h
  rfl
theorem len_way_back {K : PySem.W.Frag} : ∀ vs H Q E, sp_way_back K vs H Q E → vs.length = 2 := by
  intro vs H Q E h
  obtain ⟨_, _, _, _, _, rfl, _⟩ := h
  rfl
theorem len_Web_points {K : PySem.W.Frag} : ∀ vs H Q E, sp_Web_points K vs H Q E → vs.length = 1 := by
  intro vs H Q E h
  obtain ⟨_, _, _, _, rfl, _⟩ := h
  rfl
theorem len_in_order {K : PySem.W.Frag} : ∀ vs H Q E, sp_in_order K vs H Q E → vs.length = 2 := by
  intro vs H Q E h
  obtain ⟨_, _, _, _, _, _, rfl, _⟩ := h
  rfl
theorem len_Web_ties {K : PySem.W.Frag} : ∀ vs H Q E, sp_Web_ties K vs H Q E → vs.length = 1 := by
  intro vs H Q E h
  obtain ⟨_, _, _, _, rfl, _⟩ := h
  rfl
theorem len_pieces {K : PySem.W.Frag} : ∀ vs H Q E, sp_pieces K vs H Q E → vs.length = 1 := by
  intro vs H Q E h
  obtain ⟨_, _, _, _, rfl, _⟩ := h
  rfl
theorem len_Web_need_point {K : PySem.W.Frag} : ∀ vs H Q E, sp_Web_need_point K vs H Q E → vs.length = 2 := by
  intro vs H Q E h
  obtain ⟨_, _, _, _, _, rfl, _⟩ := h
  rfl
theorem len_together {K : PySem.W.Frag} : ∀ vs H Q E, sp_together K vs H Q E → vs.length = 3 := by
  intro vs H Q E h
  obtain ⟨_, _, _, _, _, _, rfl, _⟩ := h
  rfl
theorem len_trees_of {K : PySem.W.Frag} : ∀ vs H Q E, sp_trees_of K vs H Q E → vs.length = 2 := by
  intro vs H Q E h
  obtain ⟨_, _, _, _, _, _, rfl, _⟩ := h
  rfl
theorem len_forest {K : PySem.W.Frag} : ∀ vs H Q E, sp_forest K vs H Q E → vs.length = 1 := by
  intro vs H Q E h
  obtain ⟨_, _, _, _, rfl, _⟩ := h
  rfl
theorem len_need_forest {K : PySem.W.Frag} : ∀ vs H Q E, sp_need_forest K vs H Q E → vs.length = 2 := by
  intro vs H Q E h
  obtain ⟨_, _, _, _, _, rfl, _⟩ := h
  rfl
theorem len_Web_tie_of {K : PySem.W.Frag} : ∀ vs H Q E, sp_Web_tie_of K vs H Q E → vs.length = 2 := by
  intro vs H Q E h
  obtain ⟨_, _, _, _, _, rfl, _⟩ := h
  rfl
theorem len_ring_by {K : PySem.W.Frag} : ∀ vs H Q E, sp_ring_by K vs H Q E → vs.length = 3 := by
  intro vs H Q E h
  obtain ⟨_, _, _, _, _, _, rfl, _⟩ := h
  rfl
theorem len_sides {K : PySem.W.Frag} : ∀ vs H Q E, sp_sides K vs H Q E → vs.length = 1 := by
  intro vs H Q E h
  obtain ⟨_, _, _, _, _, rfl, _⟩ := h
  rfl
theorem len_need_load {K : PySem.W.Frag} : ∀ vs H Q E, sp_need_load K vs H Q E → vs.length = 1 := by
  intro vs H Q E h
  obtain ⟨_, rfl, _⟩ := h
  rfl
theorem len_Tie_init {K : PySem.W.Frag} : ∀ vs H Q E, sp_Tie_init K vs H Q E → vs.length = 6 := by
  intro vs H Q E h
  obtain ⟨_, _, _, rfl, _⟩ := h
  rfl
theorem len_moved_tie {K : PySem.W.Frag} : ∀ vs H Q E, sp_moved_tie K vs H Q E → vs.length = 3 := by
  intro vs H Q E h
  obtain ⟨_, _, _, _, rfl, _⟩ := h
  rfl
theorem len_Web_init {K : PySem.W.Frag} : ∀ vs H Q E, sp_Web_init K vs H Q E → vs.length = 1 := by
  intro vs H Q E h
  obtain ⟨_, _, rfl, _⟩ := h
  rfl
theorem len_Web_given {K : PySem.W.Frag} : ∀ vs H Q E, sp_Web_given K vs H Q E → vs.length = 1 := by
  intro vs H Q E h
  obtain ⟨_, _, _, _, rfl, _⟩ := h
  rfl
theorem len_Web_need_new {K : PySem.W.Frag} : ∀ vs H Q E, sp_Web_need_new K vs H Q E → vs.length = 2 := by
  intro vs H Q E h
  obtain ⟨_, _, _, _, _, rfl, _⟩ := h
  rfl
theorem len_Web_need_room {K : PySem.W.Frag} : ∀ vs H Q E, sp_Web_need_room K vs H Q E → vs.length = 1 := by
  intro vs H Q E h
  obtain ⟨_, _, _, _, rfl, _⟩ := h
  rfl
theorem len_Web_put_point {K : PySem.W.Frag} : ∀ vs H Q E, sp_Web_put_point K vs H Q E → vs.length = 2 := by
  intro vs H Q E h
  obtain ⟨_, _, _, _, _, rfl, _⟩ := h
  rfl
theorem len_Web_drop_point {K : PySem.W.Frag} : ∀ vs H Q E, sp_Web_drop_point K vs H Q E → vs.length = 2 := by
  intro vs H Q E h
  obtain ⟨_, _, _, _, _, rfl, _⟩ := h
  rfl
theorem len_Web_move_all {K : PySem.W.Frag} : ∀ vs H Q E, sp_Web_move_all K vs H Q E → vs.length = 3 := by
  intro vs H Q E h
  obtain ⟨_, _, _, _, _, _, rfl, _⟩ := h
  rfl
theorem len_Web_rename {K : PySem.W.Frag} : ∀ vs H Q E, sp_Web_rename K vs H Q E → vs.length = 3 := by
  intro vs H Q E h
  obtain ⟨_, _, _, _, _, _, rfl, _⟩ := h
  rfl
theorem len_Web_put_numbered {K : PySem.W.Frag} : ∀ vs H Q E, sp_Web_put_numbered K vs H Q E → vs.length = 6 := by
  intro vs H Q E h
  obtain ⟨_, _, _, _, _, rfl, _⟩ := h
  rfl
theorem len_Web_put_tie {K : PySem.W.Frag} : ∀ vs H Q E, sp_Web_put_tie K vs H Q E → vs.length = 5 := by
  intro vs H Q E h
  obtain ⟨_, _, _, _, _, _, _, _, rfl, _⟩ := h
  rfl
theorem len_Web_drop_tie {K : PySem.W.Frag} : ∀ vs H Q E, sp_Web_drop_tie K vs H Q E → vs.length = 2 := by
  intro vs H Q E h
  obtain ⟨_, _, _, _, _, rfl, _⟩ := h
  rfl
theorem len_Web_set_load {K : PySem.W.Frag} : ∀ vs H Q E, sp_Web_set_load K vs H Q E → vs.length = 3 := by
  intro vs H Q E h
  obtain ⟨_, _, _, _, _, _, rfl, _⟩ := h
  rfl
theorem len_Web_join {K : PySem.W.Frag} : ∀ vs H Q E, sp_Web_join K vs H Q E → vs.length = 3 := by
  intro vs H Q E h
  obtain ⟨_, _, _, _, _, _, rfl, _⟩ := h
  rfl
theorem len_Web_part {K : PySem.W.Frag} : ∀ vs H Q E, sp_Web_part K vs H Q E → vs.length = 4 := by
  intro vs H Q E h
  obtain ⟨_, _, _, _, _, _, _, _, rfl, _⟩ := h
  rfl
theorem len_Web_give {K : PySem.W.Frag} : ∀ vs H Q E, sp_Web_give K vs H Q E → vs.length = 2 := by
  intro vs H Q E h
  obtain ⟨_, _, _, _, _, rfl, _⟩ := h
  rfl
theorem len_tie_line {K : PySem.W.Frag} : ∀ vs H Q E, sp_tie_line K vs H Q E → vs.length = 1 := by
  intro vs H Q E h
  obtain ⟨_, _, rfl, _⟩ := h
  rfl
theorem len_web_lines {K : PySem.W.Frag} : ∀ vs H Q E, sp_web_lines K vs H Q E → vs.length = 1 := by
  intro vs H Q E h
  obtain ⟨_, _, _, _, rfl, _⟩ := h
  rfl
theorem len_need_line {K : PySem.W.Frag} : ∀ vs H Q E, sp_need_line K vs H Q E → vs.length = 1 := by
  intro vs H Q E h
  obtain ⟨rfl, _⟩ := h
  rfl
theorem len_put_tie_line {K : PySem.W.Frag} : ∀ vs H Q E, sp_put_tie_line K vs H Q E → vs.length = 2 := by
  intro vs H Q E h
  obtain ⟨_, _, _, _, _, _, rfl, _⟩ := h
  rfl
theorem len_put_line {K : PySem.W.Frag} : ∀ vs H Q E, sp_put_line K vs H Q E → vs.length = 2 := by
  intro vs H Q E h
  obtain ⟨_, _, _, _, _, rfl, _⟩ := h
  rfl
theorem len_web_of {K : PySem.W.Frag} : ∀ vs H Q E, sp_web_of K vs H Q E → vs.length = 1 := by
  intro vs H Q E h
  obtain ⟨_, _, rfl, _⟩ := h
  rfl
theorem len_law_draw {K : PySem.W.Frag} : ∀ vs H Q E, sp_law_draw K vs H Q E → vs.length = 3 := by
  intro vs H Q E h
  obtain ⟨_, _, _, rfl, _⟩ := h
  rfl
theorem len_law_load {K : PySem.W.Frag} : ∀ vs H Q E, sp_law_load K vs H Q E → vs.length = 3 := by
  intro vs H Q E h
  obtain ⟨_, _, _, rfl, _⟩ := h
  rfl
theorem len_law_pool {K : PySem.W.Frag} : ∀ vs H Q E, sp_law_pool K vs H Q E → vs.length = 1 := by
  intro vs H Q E h
  obtain ⟨_, rfl, _⟩ := h
  rfl
theorem len_law_whole {K : PySem.W.Frag} : ∀ vs H Q E, sp_law_whole K vs H Q E → vs.length = 2 := by
  intro vs H Q E h
  obtain ⟨_, rfl, _⟩ := h
  rfl
theorem len_law_put_tie {K : PySem.W.Frag} : ∀ vs H Q E, sp_law_put_tie K vs H Q E → vs.length = 4 := by
  intro vs H Q E h
  obtain ⟨_, _, _, _, _, _, _, _, _, rfl, _⟩ := h
  rfl
theorem len_law_tie_changed {K : PySem.W.Frag} : ∀ vs H Q E, sp_law_tie_changed K vs H Q E → vs.length = 5 := by
  intro vs H Q E h
  obtain ⟨_, _, _, _, _, _, _, _, _, _, rfl, _⟩ := h
  rfl
theorem len_law_moved {K : PySem.W.Frag} : ∀ vs H Q E, sp_law_moved K vs H Q E → vs.length = 4 := by
  intro vs H Q E h
  obtain ⟨_, _, _, _, _, _, _, _, rfl, _⟩ := h
  rfl
theorem len_law_at {K : PySem.W.Frag} : ∀ vs H Q E, sp_law_at K vs H Q E → vs.length = 2 := by
  intro vs H Q E h
  obtain ⟨_, _, _, _, _, rfl, _⟩ := h
  rfl
theorem len_law_point_changed {K : PySem.W.Frag} : ∀ vs H Q E, sp_law_point_changed K vs H Q E → vs.length = 6 := by
  intro vs H Q E h
  obtain ⟨_, _, _, _, _, _, _, _, _, _, _, _, rfl, _⟩ := h
  rfl
theorem len_law_deed {K : PySem.W.Frag} : ∀ vs H Q E, sp_law_deed K vs H Q E → vs.length = 5 := by
  intro vs H Q E h
  obtain ⟨_, _, _, _, _, _, _, _, _, _, _, rfl, _⟩ := h
  rfl
theorem len_law_row {K : PySem.W.Frag} : ∀ vs H Q E, sp_law_row K vs H Q E → vs.length = 1 := by
  intro vs H Q E h
  obtain ⟨_, _, rfl, _⟩ := h
  rfl
theorem len_law_rows {K : PySem.W.Frag} : ∀ vs H Q E, sp_law_rows K vs H Q E → vs.length = 1 := by
  intro vs H Q E h
  obtain ⟨_, _, _, _, rfl, _⟩ := h
  rfl
theorem len_law_stands {K : PySem.W.Frag} : ∀ vs H Q E, sp_law_stands K vs H Q E → vs.length = 2 := by
  intro vs H Q E h
  obtain ⟨_, _, _, _, _, _, _, rfl, _⟩ := h
  rfl
theorem len_law_none {K : PySem.W.Frag} : ∀ vs H Q E, sp_law_none K vs H Q E → vs.length = 0 := by
  intro vs H Q E h
  obtain ⟨rfl, _⟩ := h
  rfl
theorem len_law_trees {K : PySem.W.Frag} : ∀ vs H Q E, sp_law_trees K vs H Q E → vs.length = 2 := by
  intro vs H Q E h
  obtain ⟨_, _, _, _, _, _, rfl, _⟩ := h
  rfl
theorem len_law_pieces {K : PySem.W.Frag} : ∀ vs H Q E, sp_law_pieces K vs H Q E → vs.length = 1 := by
  intro vs H Q E h
  obtain ⟨_, _, _, _, rfl, _⟩ := h
  rfl
theorem len_law_gone {K : PySem.W.Frag} : ∀ vs H Q E, sp_law_gone K vs H Q E → vs.length = 3 := by
  intro vs H Q E h
  obtain ⟨_, _, _, _, _, _, _, _, rfl, _⟩ := h
  rfl
theorem len_law_turned {K : PySem.W.Frag} : ∀ vs H Q E, sp_law_turned K vs H Q E → vs.length = 3 := by
  intro vs H Q E h
  obtain ⟨_, _, _, _, rfl, _⟩ := h
  rfl
theorem len_law_rings_even {K : PySem.W.Frag} : ∀ vs H Q E, sp_law_rings_even K vs H Q E → vs.length = 3 := by
  intro vs H Q E h
  obtain ⟨_, _, _, _, _, _, _, _, _, rfl, _⟩ := h
  rfl
theorem len_law_way_row {K : PySem.W.Frag} : ∀ vs H Q E, sp_law_way_row K vs H Q E → vs.length = 1 := by
  intro vs H Q E h
  obtain ⟨_, _, rfl, _⟩ := h
  rfl
theorem len_law_ways_good {K : PySem.W.Frag} : ∀ vs H Q E, sp_law_ways_good K vs H Q E → vs.length = 4 := by
  intro vs H Q E h
  obtain ⟨_, _, _, _, _, _, _, _, _, rfl, _⟩ := h
  rfl
theorem len_law_good {K : PySem.W.Frag} : ∀ vs H Q E, sp_law_good K vs H Q E → vs.length = 4 := by
  intro vs H Q E h
  obtain ⟨_, _, _, _, _, _, _, _, _, _, rfl, _⟩ := h
  rfl
theorem len_law_filled {K : PySem.W.Frag} : ∀ vs H Q E, sp_law_filled K vs H Q E → vs.length = 4 := by
  intro vs H Q E h
  obtain ⟨_, _, _, _, _, _, _, _, _, _, rfl, _⟩ := h
  rfl
theorem len_law {K : PySem.W.Frag} : ∀ vs H Q E, sp_law K vs H Q E → vs.length = 1 := by
  intro vs H Q E h
  obtain ⟨_, _, rfl, _⟩ := h
  rfl
section
variable {P : Program} {w : World} {K : PySem.W.Frag} {mg : Str → Option Value} {base : Heap}
theorem w_is_whole (T : Tx w K mg) {cdv : Value} {A : Around} {outer : List Env} {s : Shared} {H : Hp} {E : XK} {f : Addr} (hr : Room 0 (A.deeper (envOfC "is_whole" (defScope s_is_whole) s.heap.objs.size f cdv))) : PSs (cxOf CX0 P w K mg base n_is_whole "is_whole" (defScope s_is_whole) f cdv A outer s H E).nox (defBody s_is_whole) (t_is_whole K) :=
  pss_one (ps_ret (pe_and (pe_callB call_isi (by rfl) T.b_isinstance (by decide +kernel) (pa_cons (pv 0) (pa_cons (pe_bltn (v := .ty "int") (u := .type "int") (by rfl) T.b_int (by decide +kernel) rfl) pa_nil))) (pe_one (pe_not (pe_callB call_isi (by rfl) T.b_isinstance (by decide +kernel) (pa_cons (pv 0) (pa_cons (pe_bltn (v := .ty "bool") (u := .type "bool") (by rfl) T.b_bool (by decide +kernel) rfl) pa_nil)))))))
theorem ok_is_whole (T : Tx w K mg) : FnOk P w K mg base CX0 1 (He.fAd K ("is_whole", none)) (fdOf K ("is_whole", none)) ["thing"] (sp_is_whole K) :=
  T.f_is_whole.ok sc_is_whole len_is_whole fun cdv A outer s H vs Q E hr h => ⟨t_is_whole K, (w_is_whole T hr).nox, pure_is_whole T vs H Q E h⟩
theorem w_is_among (T : Tx w K mg) {cdv : Value} {A : Around} {outer : List Env} {s : Shared} {H : Hp} {E : XK} {f : Addr} (hr : Room 1 (A.deeper (envOfC "is_among" (defScope s_is_among) s.heap.objs.size f cdv))) : PSs (cxOf CX0 P w K mg base n_is_among "is_among" (defScope s_is_among) f cdv A outer s H E).nox (defBody s_is_among) (t_is_among K) :=
  pss_one (ps_ret (pe_and (pe_call (ok_is_whole T) (hr.mono (by decide)) (by rfl) T.g_is_whole T.f_is_whole.kp T.y_is_whole .nil pass0 (pa_cons (pv 0) pa_nil)) (pe_one (pe_chain op_le op_le (pv 1) (pv 0) (pv 2)))))
theorem ok_is_among (T : Tx w K mg) : FnOk P w K mg base CX0 2 (He.fAd K ("is_among", none)) (fdOf K ("is_among", none)) ["thing", "least", "most"] (sp_is_among K) :=
  T.f_is_among.ok sc_is_among len_is_among fun cdv A outer s H vs Q E hr h => ⟨t_is_among K, (w_is_among T hr).nox, pure_is_among T vs H Q E h⟩
theorem w_are_signs (T : Tx w K mg) {cdv : Value} {A : Around} {outer : List Env} {s : Shared} {H : Hp} {E : XK} {f : Addr} (hr : Room 0 (A.deeper (envOfC "are_signs" (defScope s_are_signs) s.heap.objs.size f cdv))) : PSs (cxOf CX0 P w K mg base n_are_signs "are_signs" (defScope s_are_signs) f cdv A outer s H E).nox (defBody s_are_signs) (t_are_signs K) :=
  pss_one (ps_ret (pe_callB (cr_all (by rfl)) (by rfl) T.b_all (by decide +kernel) (pa_cons (pe_lc (own := [("sign", 2)]) (by rfl) sc_are_signs.nd (pi_str (pv 0)) (blkOk_by (own := [("sign", 2)]) (N := n_are_signs) (sc := defScope s_are_signs) (by decide +kernel)) (fun _ _ _ _ _ => pg_name (i := 2) sc_are_signs.nd rfl (by first | exact Or.inl rfl | exact Or.inr rfl)) (fun _ _ _ _ _ => pts_nil) (fun _ _ _ _ _ => pe_cmpR op_in_sign (pv 2) (pv 1) rfl)) pa_nil)))
theorem ok_are_signs (T : Tx w K mg) : FnOk P w K mg base CX0 1 (He.fAd K ("are_signs", none)) (fdOf K ("are_signs", none)) ["text", "signs"] (sp_are_signs K) :=
  T.f_are_signs.ok sc_are_signs len_are_signs fun cdv A outer s H vs Q E hr h => ⟨t_are_signs K, (w_are_signs T hr).nox, pure_are_signs T vs H Q E h⟩
theorem w_is_name (T : Tx w K mg) {cdv : Value} {A : Around} {outer : List Env} {s : Shared} {H : Hp} {E : XK} {f : Addr} (hr : Room 1 (A.deeper (envOfC "is_name" (defScope s_is_name) s.heap.objs.size f cdv))) : PSs (cxOf CX0 P w K mg base n_is_name "is_name" (defScope s_is_name) f cdv A outer s H E).nox (defBody s_is_name) (t_is_name K) :=
  pss_one (ps_ret (pe_and (pe_callB call_isi (by rfl) T.b_isinstance (by decide +kernel) (pa_cons (pv 0) (pa_cons (pe_bltn (v := .ty "str") (u := .type "str") (by rfl) T.b_str (by decide +kernel) rfl) pa_nil))) (pe_and (pe_chain op_le op_le (pe_int) (pe_callB call_len_str (by rfl) T.b_len (by decide +kernel) (pa_cons (pv 0) pa_nil)) (pe_glob rfl T.i_MOST_LETTERS.choose_spec ⟨_, rfl⟩)) (pe_one (pe_call (ok_are_signs T) (hr.mono (by decide)) (by rfl) T.g_are_signs T.f_are_signs.kp T.y_are_signs .nil pass0 (pa_cons (pv 0) (pa_cons (pe_glob rfl T.s_LETTERS.choose_spec ⟨_, rfl⟩) pa_nil)))))))
theorem ok_is_name (T : Tx w K mg) : FnOk P w K mg base CX0 2 (He.fAd K ("is_name", none)) (fdOf K ("is_name", none)) ["thing"] (sp_is_name K) :=
  T.f_is_name.ok sc_is_name len_is_name fun cdv A outer s H vs Q E hr h => ⟨t_is_name K, (w_is_name T hr).nox, pure_is_name T vs H Q E h⟩
theorem w_number_text (T : Tx w K mg) {cdv : Value} {A : Around} {outer : List Env} {s : Shared} {H : Hp} {E : XK} {f : Addr} (hr : Room 0 (A.deeper (envOfC "number_text" (defScope s_number_text) s.heap.objs.size f cdv))) : PSs (cxOf CX0 P w K mg base n_number_text "number_text" (defScope s_number_text) f cdv A outer s H E).nox (defBody s_number_text) (t_number_text K) :=
  pss_one (ps_ret (pe_callTy call_str_int (by rfl) T.b_str (by decide +kernel) (pa_cons (pv 0) pa_nil)))
theorem ok_number_text (T : Tx w K mg) : FnOk P w K mg base CX0 1 (He.fAd K ("number_text", none)) (fdOf K ("number_text", none)) ["number"] (sp_number_text K) :=
  T.f_number_text.ok sc_number_text len_number_text fun cdv A outer s H vs Q E hr h => ⟨t_number_text K, (w_number_text T hr).nox, pure_number_text T vs H Q E h⟩
theorem w_number_of (T : Tx w K mg) {cdv : Value} {A : Around} {outer : List Env} {s : Shared} {H : Hp} {E : XK} {f : Addr} (hr : Room 1 (A.deeper (envOfC "number_of" (defScope s_number_of) s.heap.objs.size f cdv))) : PSs (cxOf CX0 P w K mg base n_number_of "number_of" (defScope s_number_of) f cdv A outer s H E).nox (defBody s_number_of) (t_number_of K) :=
  pss_cons (ps_if (PW.pt (pw_or (pt_not (pt_val (pe_callB call_isi (by rfl) T.b_isinstance (by decide +kernel) (pa_cons (pv 0) (pa_cons (pe_bltn (v := .ty "str") (u := .type "str") (by rfl) T.b_str (by decide +kernel) rfl) pa_nil))))) (pw_or (pt_not (pt_chain op_le op_le (pe_int) (pe_callB call_len_str (by rfl) T.b_len (by decide +kernel) (pa_cons (pv 0) pa_nil)) (pe_glob rfl T.i_MOST_FIGURES.choose_spec ⟨_, rfl⟩))) (pw_or1 (pt_not (pt_val (pe_call (ok_are_signs T) (hr.mono (by decide)) (by rfl) T.g_are_signs T.f_are_signs.kp T.y_are_signs .nil pass0 (pa_cons (pv 0) (pa_cons (pe_glob rfl T.s_FIGURES.choose_spec ⟨_, rfl⟩) pa_nil))))))))) (pss_one (ps_ret (pe_non))) pss_nil)
    (pss_cons (ps_if (PW.pt (pw_and (pt_cmpR op_eq (pe_ix ix_str (pv 0) (pe_int) (fun _ _ => rfl)) (pe_str) (nomark _)) (pw_and1 (pt_cmpR op_ne (pv 0) (pe_str) (nomark _))))) (pss_one (ps_ret (pe_non))) pss_nil)
    (pss_one (ps_ret (pe_callTy call_int_str (by rfl) T.b_int (by decide +kernel) (pa_cons (pv 0) pa_nil)))))
theorem ok_number_of (T : Tx w K mg) : FnOk P w K mg base CX0 2 (He.fAd K ("number_of", none)) (fdOf K ("number_of", none)) ["word"] (sp_number_of K) :=
  T.f_number_of.ok sc_number_of len_number_of fun cdv A outer s H vs Q E hr h => ⟨t_number_of K, (w_number_of T hr).nox, pure_number_of T vs H Q E h⟩
theorem w_words_of (T : Tx w K mg) {cdv : Value} {A : Around} {outer : List Env} {s : Shared} {H : Hp} {E : XK} {f : Addr} (hr : Room 0 (A.deeper (envOfC "words_of" (defScope s_words_of) s.heap.objs.size f cdv))) : PSs (cxOf CX0 P w K mg base n_words_of "words_of" (defScope s_words_of) f cdv A outer s H E).nox (defBody s_words_of) (t_words_of K) :=
  pss_cons (ps_if (pt_not (pt_val (pe_callB call_isi (by rfl) T.b_isinstance (by decide +kernel) (pa_cons (pv 0) (pa_cons (pe_bltn (v := .ty "str") (u := .type "str") (by rfl) T.b_str (by decide +kernel) rfl) pa_nil))))) (pss_one (ps_ret (pe_non))) pss_nil)
    (pss_cons (ps_set (i := 1) sc_words_of.nd rfl (by first | exact Or.inl rfl | exact Or.inr rfl) (pe_split (pv 0) (pe_str)))
    (pss_cons (ps_if (pt_cmpR op_in_seq (pe_str) (pv 1) (by rfl)) (pss_one (ps_ret (pe_non))) pss_nil)
    (pss_one (ps_ret (pv 1)))))
theorem ok_words_of (T : Tx w K mg) : FnOk P w K mg base CX0 1 (He.fAd K ("words_of", none)) (fdOf K ("words_of", none)) ["line"] (sp_words_of K) :=
  T.f_words_of.ok sc_words_of len_words_of fun cdv A outer s H vs Q E hr h => ⟨t_words_of K, (w_words_of T hr).nox, pure_words_of T vs H Q E h⟩
theorem w_Way_init (T : Tx w K mg) {cdv : Value} {A : Around} {outer : List Env} {s : Shared} {H : Hp} {E : XK} {f : Addr} (hr : Room 0 (A.deeper (envOfC "Way.__init__" (defScope s_Way_init) s.heap.objs.size f cdv))) : PSs (cxOf CX0 P w K mg base n_Way_init "Way.__init__" (defScope s_Way_init) f cdv A outer s H E).nox (defBody s_Way_init) (t_Way_init K) :=
  pss_one (ps_fld (pv 0) (pe_callTy call_list_of (by rfl) T.b_list (by decide +kernel) (pa_cons (pv 1) pa_nil)) rfl)
theorem ok_Way_init (T : Tx w K mg) : FnOk P w K mg base CX0 1 (He.fAd K ("Way", some "__init__")) (fdOf K ("Way", some "__init__")) ["self", "numbers"] (sp_Way_init K) :=
  T.f_Way_init.ok sc_Way_init len_Way_init fun cdv A outer s H vs Q E hr h => ⟨t_Way_init K, (w_Way_init T hr).nox, pure_Way_init T vs H Q E h⟩
theorem w_Border_init (T : Tx w K mg) {cdv : Value} {A : Around} {outer : List Env} {s : Shared} {H : Hp} {E : XK} {f : Addr} (hr : Room 0 (A.deeper (envOfC "Border.__init__" (defScope s_Border_init) s.heap.objs.size f cdv))) : PSs (cxOf CX0 P w K mg base n_Border_init "Border.__init__" (defScope s_Border_init) f cdv A outer s H E).nox (defBody s_Border_init) (t_Border_init K) :=
  pss_one (ps_fld (pv 0) (pe_callTy call_list_of (by rfl) T.b_list (by decide +kernel) (pa_cons (pv 1) pa_nil)) rfl)
theorem ok_Border_init (T : Tx w K mg) : FnOk P w K mg base CX0 1 (He.fAd K ("Border", some "__init__")) (fdOf K ("Border", some "__init__")) ["self", "names"] (sp_Border_init K) :=
  T.f_Border_init.ok sc_Border_init len_Border_init fun cdv A outer s H vs Q E hr h => ⟨t_Border_init K, (w_Border_init T hr).nox, pure_Border_init T vs H Q E h⟩
theorem w_Sides_init (T : Tx w K mg) {cdv : Value} {A : Around} {outer : List Env} {s : Shared} {H : Hp} {E : XK} {f : Addr} (hr : Room 0 (A.deeper (envOfC "Sides.__init__" (defScope s_Sides_init) s.heap.objs.size f cdv))) : PSs (cxOf CX0 P w K mg base n_Sides_init "Sides.__init__" (defScope s_Sides_init) f cdv A outer s H E).nox (defBody s_Sides_init) (t_Sides_init K) :=
  pss_one (ps_fld (pv 0) (pe_callTy call_dictD (by rfl) T.b_dict (by decide +kernel) (pa_cons (pv 1) pa_nil)) rfl)
theorem ok_Sides_init (T : Tx w K mg) : FnOk P w K mg base CX0 1 (He.fAd K ("Sides", some "__init__")) (fdOf K ("Sides", some "__init__")) ["self", "sides"] (sp_Sides_init K) :=
  T.f_Sides_init.ok sc_Sides_init len_Sides_init fun cdv A outer s H vs Q E hr h => ⟨t_Sides_init K, (w_Sides_init T hr).nox, pure_Sides_init T vs H Q E h⟩
theorem w_OddRing_init (T : Tx w K mg) {cdv : Value} {A : Around} {outer : List Env} {s : Shared} {H : Hp} {E : XK} {f : Addr} (hr : Room 0 (A.deeper (envOfC "OddRing.__init__" (defScope s_OddRing_init) s.heap.objs.size f cdv))) : PSs (cxOf CX0 P w K mg base n_OddRing_init "OddRing.__init__" (defScope s_OddRing_init) f cdv A outer s H E).nox (defBody s_OddRing_init) (t_OddRing_init K) :=
  pss_one (ps_fld (pv 0) (pe_callTy call_list_of (by rfl) T.b_list (by decide +kernel) (pa_cons (pv 1) pa_nil)) rfl)
theorem ok_OddRing_init (T : Tx w K mg) : FnOk P w K mg base CX0 1 (He.fAd K ("OddRing", some "__init__")) (fdOf K ("OddRing", some "__init__")) ["self", "numbers"] (sp_OddRing_init K) :=
  T.f_OddRing_init.ok sc_OddRing_init len_OddRing_init fun cdv A outer s H vs Q E hr h => ⟨t_OddRing_init K, (w_OddRing_init T hr).nox, pure_OddRing_init T vs H Q E h⟩
theorem w_ends_by (T : Tx w K mg) {cdv : Value} {A : Around} {outer : List Env} {s : Shared} {H : Hp} {E : XK} {f : Addr} (hr : Room 0 (A.deeper (envOfC "ends_by" (defScope s_ends_by) s.heap.objs.size f cdv))) : PSs (cxOf CX0 P w K mg base n_ends_by "ends_by" (defScope s_ends_by) f cdv A outer s H E).nox (defBody s_ends_by) (t_ends_by K) :=
  pss_cons (ps_set (i := 1) sc_ends_by.nd rfl (by first | exact Or.inl rfl | exact Or.inr rfl) (pe_dnewK))
    (pss_cons (ps_for PassesOwn.never (by rfl) (pi_list (pv 0)) (pg_name (i := 2) sc_ends_by.nd rfl (by first | exact Or.inl rfl | exact Or.inr rfl)) (pss_cons (ps_expr (pe_bm PySem.F.plainAttrs_list PySem.F.slot_list_append PySem.F.type_list_append mt_append (pe_dsetd (pv 1) (pe_fld (pv 2) rfl) (pe_lst pa_nil) ⟨by rfl, by rfl, by rfl, by rfl⟩) (pa_cons (pe_tup (pa_cons (pe_fld (pv 2) rfl) (pa_cons (pe_fld (pv 2) rfl) pa_nil))) pa_nil)))
    (pss_one (ps_expr (pe_bm PySem.F.plainAttrs_list PySem.F.slot_list_append PySem.F.type_list_append mt_append (pe_dsetd (pv 1) (pe_fld (pv 2) rfl) (pe_lst pa_nil) ⟨by rfl, by rfl, by rfl, by rfl⟩) (pa_cons (pe_tup (pa_cons (pe_fld (pv 2) rfl) (pa_cons (pe_fld (pv 2) rfl) pa_nil))) pa_nil))))))
    (pss_one (ps_ret (pv 1))))
theorem ok_ends_by (T : Tx w K mg) : FnOk P w K mg base CX0 1 (He.fAd K ("ends_by", none)) (fdOf K ("ends_by", none)) ["some"] (sp_ends_by K) :=
  T.f_ends_by.ok sc_ends_by len_ends_by fun cdv A outer s H vs Q E hr h => ⟨t_ends_by K, (w_ends_by T hr).nox, pure_ends_by T vs H Q E h⟩
theorem w_came_from (T : Tx w K mg) {cdv : Value} {A : Around} {outer : List Env} {s : Shared} {H : Hp} {E : XK} {f : Addr} (hr : Room 0 (A.deeper (envOfC "came_from" (defScope s_came_from) s.heap.objs.size f cdv))) : PSs (cxOf CX0 P w K mg base n_came_from "came_from" (defScope s_came_from) f cdv A outer s H E).nox (defBody s_came_from) (t_came_from K) :=
  pss_cons (ps_set (i := 2) sc_came_from.nd rfl (by first | exact Or.inl rfl | exact Or.inr rfl) (pe_disp (pps_cons (pv 1) (pe_tup (pa_cons (pe_non) (pa_cons (pe_non) pa_nil))) (pps_nil)) (by rfl) (by rfl) (fun z => by cases z) (by decide)))
    (pss_cons (ps_set (i := 3) sc_came_from.nd rfl (by first | exact Or.inl rfl | exact Or.inr rfl) (pe_lst (pa_cons (pv 1) pa_nil)))
    (pss_cons (ps_set (i := 4) sc_came_from.nd rfl (by first | exact Or.inl rfl | exact Or.inr rfl) (pe_int))
    (pss_cons (ps_while PassesOwn.never (pt_cmpR op_lt (pv 4) (pe_callB call_len_seq (by rfl) T.b_len (by decide +kernel) (pa_cons (pv 3) pa_nil)) (nomark _)) (pss_cons (ps_set (i := 5) sc_came_from.nd rfl (by first | exact Or.inl rfl | exact Or.inr rfl) (pe_ix ix_list (pv 3) (pv 4) (fun _ _ => rfl)))
    (pss_cons (ps_aug (i := 4) sc_came_from.nd rfl (by first | exact Or.inl rfl | exact Or.inr rfl) (pe_int) ip_add)
    (pss_one (ps_for PassesOwn.never (by rfl) (pi_list (pe_dget2 (hu_of hr) (pv 0) (pv 5) (pe_lst pa_nil) ⟨by rfl, by rfl, by rfl, by rfl⟩)) (pg_tup (by rfl) (pgs_cons (pg_name (i := 6) sc_came_from.nd rfl (by first | exact Or.inl rfl | exact Or.inr rfl)) (pgs_cons (pg_name (i := 7) sc_came_from.nd rfl (by first | exact Or.inl rfl | exact Or.inr rfl)) (pgs_nil)))) (pss_one (ps_if (pt_cmp (pc_dnotin (hu_of hr) (pv 7) (pv 2))) (pss_cons (ps_dput (hu_of hr) (pv 2) (pv 7) (pe_tup (pa_cons (pv 6) (pa_cons (pv 5) pa_nil))) rfl)
    (pss_one (ps_expr (pe_bm PySem.F.plainAttrs_list PySem.F.slot_list_append PySem.F.type_list_append mt_append (pv 3) (pa_cons (pv 7) pa_nil))))) pss_nil)))))))
    (pss_one (ps_ret (pv 2))))))
theorem ok_came_from (T : Tx w K mg) : FnOk P w K mg base CX0 1 (He.fAd K ("came_from", none)) (fdOf K ("came_from", none)) ["beside", "start"] (sp_came_from K) :=
  T.f_came_from.ok sc_came_from len_came_from fun cdv A outer s H vs Q E hr h => ⟨t_came_from K, (w_came_from T hr).nox, pure_came_from T vs H Q E h⟩
theorem w_way_back (T : Tx w K mg) {cdv : Value} {A : Around} {outer : List Env} {s : Shared} {H : Hp} {E : XK} {f : Addr} (hr : Room 0 (A.deeper (envOfC "way_back" (defScope s_way_back) s.heap.objs.size f cdv))) : PSs (cxOf CX0 P w K mg base n_way_back "way_back" (defScope s_way_back) f cdv A outer s H E).nox (defBody s_way_back) (t_way_back K) :=
  pss_cons (ps_set (i := 2) sc_way_back.nd rfl (by first | exact Or.inl rfl | exact Or.inr rfl) (pe_lst pa_nil))
    (pss_cons (ps_set (i := 3) sc_way_back.nd rfl (by first | exact Or.inl rfl | exact Or.inr rfl) (pv 1))
    (pss_cons (ps_while PassesOwn.never (pt_cmpR op_notN (pe_ix ix_tup (pe_dget (hu_of hr) (pv 0) (pv 3) (fun _ _ => rfl)) (pe_int) (fun _ _ => rfl)) (pe_non) (nomark _)) (pss_cons (ps_expr (pe_bm PySem.F.plainAttrs_list PySem.F.slot_list_append PySem.F.type_list_append mt_append (pv 2) (pa_cons (pe_ix ix_tup (pe_dget (hu_of hr) (pv 0) (pv 3) (fun _ _ => rfl)) (pe_int) (fun _ _ => rfl)) pa_nil)))
    (pss_one (ps_set (i := 3) sc_way_back.nd rfl (by first | exact Or.inl rfl | exact Or.inr rfl) (pe_ix ix_tup (pe_dget (hu_of hr) (pv 0) (pv 3) (fun _ _ => rfl)) (pe_int) (fun _ _ => rfl))))))
    (pss_cons (ps_expr (pe_bm0 PySem.F.plainAttrs_list PySem.F.slot_list_reverse PySem.F.type_list_reverse mt_reverse (pv 2)))
    (pss_one (ps_ret (pv 2))))))
theorem ok_way_back (T : Tx w K mg) : FnOk P w K mg base CX0 1 (He.fAd K ("way_back", none)) (fdOf K ("way_back", none)) ["came", "goal"] (sp_way_back K) :=
  T.f_way_back.ok sc_way_back len_way_back fun cdv A outer s H vs Q E hr h => ⟨t_way_back K, (w_way_back T hr).nox, pure_way_back T vs H Q E h⟩
theorem w_Web_points (T : Tx w K mg) {cdv : Value} {A : Around} {outer : List Env} {s : Shared} {H : Hp} {E : XK} {f : Addr} (hr : Room 0 (A.deeper (envOfC "Web.points" (defScope s_Web_points) s.heap.objs.size f cdv))) : PSs (cxOf CX0 P w K mg base n_Web_points "Web.points" (defScope s_Web_points) f cdv A outer s H E).nox (defBody s_Web_points) (t_Web_points K) :=
  pss_one (ps_ret (pe_callTy call_list_of (by rfl) T.b_list (by decide +kernel) (pa_cons (pe_fld (pv 0) rfl) pa_nil)))
theorem ok_Web_points (T : Tx w K mg) : FnOk P w K mg base CX0 1 (He.fAd K ("Web", some "points")) (fdOf K ("Web", some "points")) ["self"] (sp_Web_points K) :=
  T.f_Web_points.ok sc_Web_points len_Web_points fun cdv A outer s H vs Q E hr h => ⟨t_Web_points K, (w_Web_points T hr).nox, pure_Web_points T vs H Q E h⟩
theorem w_in_order (T : Tx w K mg) {cdv : Value} {A : Around} {outer : List Env} {s : Shared} {H : Hp} {E : XK} {f : Addr} (hr : Room 1 (A.deeper (envOfC "in_order" (defScope s_in_order) s.heap.objs.size f cdv))) : PSs (cxOf CX0 P w K mg base n_in_order "in_order" (defScope s_in_order) f cdv A outer s H E).nox (defBody s_in_order) (t_in_order K) :=
  pss_one (ps_ret (pe_lc (own := [("name", 2)]) (by rfl) sc_in_order.nd (pi_list (pe_meth0 (pv 0) T.c_Web T.m_Web_points (ok_Web_points T) (hr.mono (by decide)) T.y_Web_points .nil pass0)) (blkOk_by (own := [("name", 2)]) (N := n_in_order) (sc := defScope s_in_order) (by decide +kernel)) (fun _ _ _ _ _ => pg_name (i := 2) sc_in_order.nd rfl (by first | exact Or.inl rfl | exact Or.inr rfl)) (fun _ _ _ _ _ => pts_one (pt_cmp (pc_din (hu_of hr) (pv 2) (pv 1)))) (fun _ _ _ _ _ => pv 2)))
theorem ok_in_order (T : Tx w K mg) : FnOk P w K mg base CX0 2 (He.fAd K ("in_order", none)) (fdOf K ("in_order", none)) ["web", "some"] (sp_in_order K) :=
  T.f_in_order.ok sc_in_order len_in_order fun cdv A outer s H vs Q E hr h => ⟨t_in_order K, (w_in_order T hr).nox, pure_in_order T vs H Q E h⟩
theorem w_Web_ties (T : Tx w K mg) {cdv : Value} {A : Around} {outer : List Env} {s : Shared} {H : Hp} {E : XK} {f : Addr} (hr : Room 0 (A.deeper (envOfC "Web.ties" (defScope s_Web_ties) s.heap.objs.size f cdv))) : PSs (cxOf CX0 P w K mg base n_Web_ties "Web.ties" (defScope s_Web_ties) f cdv A outer s H E).nox (defBody s_Web_ties) (t_Web_ties K) :=
  pss_one (ps_ret (pe_lc (own := [("number", 1)]) (by rfl) sc_Web_ties.nd (pi_list (pe_callB cr_sorted (by rfl) T.b_sorted (by decide +kernel) (pa_cons (pe_callTy (call_listD (by rfl)) (by rfl) T.b_list (by decide +kernel) (pa_cons (pe_fld (pv 0) rfl) pa_nil)) pa_nil))) (blkOk_by (own := [("number", 1)]) (N := n_Web_ties) (sc := defScope s_Web_ties) (by decide +kernel)) (fun _ _ _ _ _ => pg_name (i := 1) sc_Web_ties.nd rfl (by first | exact Or.inl rfl | exact Or.inr rfl)) (fun _ _ _ _ _ => pts_nil) (fun _ _ _ _ _ => pe_dget (hu_of hr) (pe_fld (pv 0) rfl) (pv 1) (fun _ _ => rfl))))
theorem ok_Web_ties (T : Tx w K mg) : FnOk P w K mg base CX0 1 (He.fAd K ("Web", some "ties")) (fdOf K ("Web", some "ties")) ["self"] (sp_Web_ties K) :=
  T.f_Web_ties.ok sc_Web_ties len_Web_ties fun cdv A outer s H vs Q E hr h => ⟨t_Web_ties K, (w_Web_ties T hr).nox, pure_Web_ties T vs H Q E h⟩
theorem w_pieces (T : Tx w K mg) {cdv : Value} {A : Around} {outer : List Env} {s : Shared} {H : Hp} {E : XK} {f : Addr} (hr : Room 2 (A.deeper (envOfC "pieces" (defScope s_pieces) s.heap.objs.size f cdv))) : PSs (cxOf CX0 P w K mg base n_pieces "pieces" (defScope s_pieces) f cdv A outer s H E).nox (defBody s_pieces) (t_pieces K) :=
  pss_cons (ps_set (i := 1) sc_pieces.nd rfl (by first | exact Or.inl rfl | exact Or.inr rfl) (pe_call (ok_ends_by T) (hr.mono (by decide)) (by rfl) T.g_ends_by T.f_ends_by.kp T.y_ends_by .nil pass0 (pa_cons (pe_meth0 (pv 0) T.c_Web T.m_Web_ties (ok_Web_ties T) (hr.mono (by decide)) T.y_Web_ties .nil pass0) pa_nil)))
    (pss_cons (ps_set (i := 2) sc_pieces.nd rfl (by first | exact Or.inl rfl | exact Or.inr rfl) (pe_lst pa_nil))
    (pss_cons (ps_set (i := 3) sc_pieces.nd rfl (by first | exact Or.inl rfl | exact Or.inr rfl) (pe_dnewK))
    (pss_cons (ps_for PassesOwn.never (by rfl) (pi_list (pe_meth0 (pv 0) T.c_Web T.m_Web_points (ok_Web_points T) (hr.mono (by decide)) T.y_Web_points .nil pass0)) (pg_name (i := 4) sc_pieces.nd rfl (by first | exact Or.inl rfl | exact Or.inr rfl)) (pss_one (ps_if (pt_cmp (pc_dnotin (hu_of hr) (pv 4) (pv 3))) (pss_cons (ps_set (i := 5) sc_pieces.nd rfl (by first | exact Or.inl rfl | exact Or.inr rfl) (pe_call (ok_came_from T) (hr.mono (by decide)) (by rfl) T.g_came_from T.f_came_from.kp T.y_came_from .nil pass0 (pa_cons (pv 1) (pa_cons (pv 4) pa_nil))))
    (pss_cons (ps_expr (pe_dupd (pv 3) (pv 5) ⟨by rfl, by rfl, by rfl, by rfl⟩))
    (pss_one (ps_expr (pe_bm PySem.F.plainAttrs_list PySem.F.slot_list_append PySem.F.type_list_append mt_append (pv 2) (pa_cons (pe_call (ok_in_order T) (hr.mono (by decide)) (by rfl) T.g_in_order T.f_in_order.kp T.y_in_order .nil pass0 (pa_cons (pv 0) (pa_cons (pv 5) pa_nil))) pa_nil)))))) pss_nil)))
    (pss_one (ps_ret (pv 2))))))
theorem ok_pieces (T : Tx w K mg) : FnOk P w K mg base CX0 3 (He.fAd K ("pieces", none)) (fdOf K ("pieces", none)) ["web"] (sp_pieces K) :=
  T.f_pieces.ok sc_pieces len_pieces fun cdv A outer s H vs Q E hr h => ⟨t_pieces K, (w_pieces T hr).nox, pure_pieces T vs H Q E h⟩
theorem w_Web_need_point (T : Tx w K mg) {cdv : Value} {A : Around} {outer : List Env} {s : Shared} {H : Hp} {E : XK} {f : Addr} (hr : Room 0 (A.deeper (envOfC "Web.need_point" (defScope s_Web_need_point) s.heap.objs.size f cdv))) : PSs (cxOf CX0 P w K mg base n_Web_need_point "Web.need_point" (defScope s_Web_need_point) f cdv A outer s H E).nox (defBody s_Web_need_point) (t_Web_need_point K) :=
  pss_one (ps_if (PW.pt (pw_or (pt_not (pt_val (pe_callB call_isi (by rfl) T.b_isinstance (by decide +kernel) (pa_cons (pv 1) (pa_cons (pe_bltn (v := .ty "str") (u := .type "str") (by rfl) T.b_str (by decide +kernel) rfl) pa_nil))))) (pw_or1 (pt_cmpR op_notIn_seq (pv 1) (pe_fld (pv 0) rfl) (by rfl))))) (pss_one (ps_never)) pss_nil)
theorem ok_Web_need_point (T : Tx w K mg) : FnOk P w K mg base CX0 1 (He.fAd K ("Web", some "need_point")) (fdOf K ("Web", some "need_point")) ["self", "name"] (sp_Web_need_point K) :=
  T.f_Web_need_point.ok sc_Web_need_point len_Web_need_point fun cdv A outer s H vs Q E hr h => ⟨t_Web_need_point K, (w_Web_need_point T hr).nox, pure_Web_need_point T vs H Q E h⟩
theorem w_together (T : Tx w K mg) {cdv : Value} {A : Around} {outer : List Env} {s : Shared} {H : Hp} {E : XK} {f : Addr} (hr : Room 2 (A.deeper (envOfC "together" (defScope s_together) s.heap.objs.size f cdv))) : PSs (cxOf CX0 P w K mg base n_together "together" (defScope s_together) f cdv A outer s H E).nox (defBody s_together) (t_together K) :=
  pss_cons (ps_expr (pe_meth (pv 0) T.c_Web T.m_Web_need_point (ok_Web_need_point T) (hr.mono (by decide)) T.y_Web_need_point .nil pass0 (pa_cons (pv 1) pa_nil)))
    (pss_cons (ps_expr (pe_meth (pv 0) T.c_Web T.m_Web_need_point (ok_Web_need_point T) (hr.mono (by decide)) T.y_Web_need_point .nil pass0 (pa_cons (pv 2) pa_nil)))
    (pss_cons (ps_set (i := 3) sc_together.nd rfl (by first | exact Or.inl rfl | exact Or.inr rfl) (pe_call (ok_came_from T) (hr.mono (by decide)) (by rfl) T.g_came_from T.f_came_from.kp T.y_came_from .nil pass0 (pa_cons (pe_call (ok_ends_by T) (hr.mono (by decide)) (by rfl) T.g_ends_by T.f_ends_by.kp T.y_ends_by .nil pass0 (pa_cons (pe_meth0 (pv 0) T.c_Web T.m_Web_ties (ok_Web_ties T) (hr.mono (by decide)) T.y_Web_ties .nil pass0) pa_nil)) (pa_cons (pv 1) pa_nil))))
    (pss_cons (ps_if (pt_cmp (pc_din (hu_of hr) (pv 2) (pv 3))) (pss_one (ps_ret (pe_make T.k_Way (ok_Way_init T) (hr.mono (by decide)) (by rfl) T.g_Way T.y_Way_init .nil pass0 (pa_cons (pe_call (ok_way_back T) (hr.mono (by decide)) (by rfl) T.g_way_back T.f_way_back.kp T.y_way_back .nil pass0 (pa_cons (pv 3) (pa_cons (pv 2) pa_nil))) pa_nil)))) pss_nil)
    (pss_one (ps_ret (pe_make T.k_Border (ok_Border_init T) (hr.mono (by decide)) (by rfl) T.g_Border T.y_Border_init .nil pass0 (pa_cons (pe_call (ok_in_order T) (hr.mono (by decide)) (by rfl) T.g_in_order T.f_in_order.kp T.y_in_order .nil pass0 (pa_cons (pv 0) (pa_cons (pv 3) pa_nil))) pa_nil)))))))
theorem ok_together (T : Tx w K mg) : FnOk P w K mg base CX0 3 (He.fAd K ("together", none)) (fdOf K ("together", none)) ["web", "one", "other"] (sp_together K) :=
  T.f_together.ok sc_together len_together fun cdv A outer s H vs Q E hr h => ⟨t_together K, (w_together T hr).nox, pure_together T vs H Q E h⟩
theorem w_trees_of (T : Tx w K mg) {cdv : Value} {A : Around} {outer : List Env} {s : Shared} {H : Hp} {E : XK} {f : Addr} (hr : Room 1 (A.deeper (envOfC "trees_of" (defScope s_trees_of) s.heap.objs.size f cdv))) : PSs (cxOf CX0 P w K mg base n_trees_of "trees_of" (defScope s_trees_of) f cdv A outer s H E).nox (defBody s_trees_of) (t_trees_of K) :=
  pss_cons (ps_set (i := 2) sc_trees_of.nd rfl (by first | exact Or.inl rfl | exact Or.inr rfl) (pe_dnewK))
    (pss_cons (ps_for PassesOwn.never (by rfl) (pi_list (pe_meth0 (pv 0) T.c_Web T.m_Web_points (ok_Web_points T) (hr.mono (by decide)) T.y_Web_points .nil pass0)) (pg_name (i := 3) sc_trees_of.nd rfl (by first | exact Or.inl rfl | exact Or.inr rfl)) (pss_one (ps_dput (hu_of hr) (pv 2) (pv 3) (pv 3) rfl)))
    (pss_cons (ps_set (i := 4) sc_trees_of.nd rfl (by first | exact Or.inl rfl | exact Or.inr rfl) (pe_lst pa_nil))
    (pss_cons (ps_for PassesOwn.never (by rfl) (pi_list (pv 1)) (pg_name (i := 5) sc_trees_of.nd rfl (by first | exact Or.inl rfl | exact Or.inr rfl)) (pss_cons (ps_asg (pe_tup (pa_cons (pe_dget (hu_of hr) (pv 2) (pe_fld (pv 5) rfl) (fun _ _ => rfl)) (pa_cons (pe_dget (hu_of hr) (pv 2) (pe_fld (pv 5) rfl) (fun _ _ => rfl)) pa_nil))) (pg_tup (by rfl) (pgs_cons (pg_name (i := 6) sc_trees_of.nd rfl (by first | exact Or.inl rfl | exact Or.inr rfl)) (pgs_cons (pg_name (i := 7) sc_trees_of.nd rfl (by first | exact Or.inl rfl | exact Or.inr rfl)) (pgs_nil)))))
    (pss_one (ps_if (pt_cmpR op_ne (pv 6) (pv 7) (nomark _)) (pss_cons (ps_expr (pe_bm PySem.F.plainAttrs_list PySem.F.slot_list_append PySem.F.type_list_append mt_append (pv 4) (pa_cons (pe_fld (pv 5) rfl) pa_nil)))
    (pss_one (ps_for PassesOwn.never (by rfl) (pi_list (pe_lock (pe_lc (own := [("name", 3)]) (by rfl) sc_trees_of.nd (pi_keys (pv 2)) (blkOk_by (own := [("name", 3)]) (N := n_trees_of) (sc := defScope s_trees_of) (by decide +kernel)) (fun _ _ _ _ _ => pg_name (i := 3) sc_trees_of.nd rfl (by first | exact Or.inl rfl | exact Or.inr rfl)) (fun _ _ _ _ _ => pts_one (pt_cmpR op_eq (pe_dget (hu_of hr) (pv 2) (pv 3) (fun _ _ => rfl)) (pv 7) (nomark _))) (fun _ _ _ _ _ => pv 3)))) (pg_name (i := 3) sc_trees_of.nd rfl (by first | exact Or.inl rfl | exact Or.inr rfl)) (pss_one (ps_dput (hu_of hr) (pv 2) (pv 3) (pv 6) rfl))))) pss_nil))))
    (pss_one (ps_ret (pv 4))))))
theorem ok_trees_of (T : Tx w K mg) : FnOk P w K mg base CX0 2 (He.fAd K ("trees_of", none)) (fdOf K ("trees_of", none)) ["web", "some"] (sp_trees_of K) :=
  T.f_trees_of.ok sc_trees_of len_trees_of fun cdv A outer s H vs Q E hr h => ⟨t_trees_of K, (w_trees_of T hr).nox, pure_trees_of T vs H Q E h⟩
theorem w_forest (T : Tx w K mg) {cdv : Value} {A : Around} {outer : List Env} {s : Shared} {H : Hp} {E : XK} {f : Addr} (hr : Room 2 (A.deeper (envOfC "forest" (defScope s_forest) s.heap.objs.size f cdv))) : PSs (cxOf CX0 P w K mg base n_forest "forest" (defScope s_forest) f cdv A outer s H E).nox (defBody s_forest) (t_forest K) :=
  pss_one (ps_ret (pe_call (ok_trees_of T) (hr.mono (by decide)) (by rfl) T.g_trees_of T.f_trees_of.kp T.y_trees_of .nil pass0 (pa_cons (pv 0) (pa_cons (pe_meth0 (pv 0) T.c_Web T.m_Web_ties (ok_Web_ties T) (hr.mono (by decide)) T.y_Web_ties .nil pass0) pa_nil))))
theorem ok_forest (T : Tx w K mg) : FnOk P w K mg base CX0 3 (He.fAd K ("forest", none)) (fdOf K ("forest", none)) ["web"] (sp_forest K) :=
  T.f_forest.ok sc_forest len_forest fun cdv A outer s H vs Q E hr h => ⟨t_forest K, (w_forest T hr).nox, pure_forest T vs H Q E h⟩
theorem w_need_forest (T : Tx w K mg) {cdv : Value} {A : Around} {outer : List Env} {s : Shared} {H : Hp} {E : XK} {f : Addr} (hr : Room 3 (A.deeper (envOfC "need_forest" (defScope s_need_forest) s.heap.objs.size f cdv))) : PSs (cxOf CX0 P w K mg base n_need_forest "need_forest" (defScope s_need_forest) f cdv A outer s H E).nox (defBody s_need_forest) (t_need_forest K) :=
  pss_cons (ps_if (PW.pt (pw_or (pt_not (pt_val (pe_callB call_isi (by rfl) T.b_isinstance (by decide +kernel) (pa_cons (pv 1) (pa_cons (pe_bltn (v := .ty "list") (u := .type "list") (by rfl) T.b_list (by decide +kernel) rfl) pa_nil))))) (pw_or1 (pt_not (pt_val (pe_callB (cr_all (by rfl)) (by rfl) T.b_all (by decide +kernel) (pa_cons (pe_lc (own := [("number", 3)]) (by rfl) sc_need_forest.nd (pi_list (pv 1)) (blkOk_by (own := [("number", 3)]) (N := n_need_forest) (sc := defScope s_need_forest) (by decide +kernel)) (fun _ _ _ _ _ => pg_name (i := 3) sc_need_forest.nd rfl (by first | exact Or.inl rfl | exact Or.inr rfl)) (fun _ _ _ _ _ => pts_nil) (fun _ _ _ _ _ => pe_call (ok_is_whole T) (hr.mono (by decide)) (by rfl) T.g_is_whole T.f_is_whole.kp T.y_is_whole .nil pass0 (pa_cons (pv 3) pa_nil))) pa_nil))))))) (pss_one (ps_never)) pss_nil)
    (pss_cons (ps_setLc (i := 2) (own := [("tie", 4)]) (by rfl) sc_need_forest.nd rfl rfl (sw_true rfl rfl rfl (by decide +kernel)) (pi_list (pe_meth0 (pv 0) T.c_Web T.m_Web_ties (ok_Web_ties T) (hr.mono (by decide)) T.y_Web_ties .nil pass0)) (blkOk_by (own := [("tie", 4)]) (N := n_need_forest) (sc := defScope s_need_forest) (by decide +kernel)) (fun _ _ _ _ _ => pg_name (i := 4) sc_need_forest.nd rfl (by first | exact Or.inl rfl | exact Or.inr rfl)) (fun _ _ _ _ _ => pts_one (pt_cmpR op_in_seq (pe_fld (pv 4) rfl) (pv 1) (by rfl))) (fun _ _ _ _ _ => pv 4))
    (pss_cons (ps_if (PW.pt (pw_or (pt_cmpR op_ne (pe_callB call_len_seq (by rfl) T.b_len (by decide +kernel) (pa_cons (pv 2) pa_nil)) (pe_callB call_len_seq (by rfl) T.b_len (by decide +kernel) (pa_cons (pv 1) pa_nil)) (nomark _)) (pw_or (pt_cmpR op_ne (pe_callB call_len_seq (by rfl) T.b_len (by decide +kernel) (pa_cons (pe_call (ok_trees_of T) (hr.mono (by decide)) (by rfl) T.g_trees_of T.f_trees_of.kp T.y_trees_of .nil pass0 (pa_cons (pv 0) (pa_cons (pv 2) pa_nil))) pa_nil)) (pe_callB call_len_seq (by rfl) T.b_len (by decide +kernel) (pa_cons (pv 2) pa_nil)) (nomark _)) (pw_or1 (pt_cmpR op_ne (pe_callB call_len_seq (by rfl) T.b_len (by decide +kernel) (pa_cons (pv 2) pa_nil)) (pe_callB call_len_seq (by rfl) T.b_len (by decide +kernel) (pa_cons (pe_call (ok_forest T) (hr.mono (by decide)) (by rfl) T.g_forest T.f_forest.kp T.y_forest .nil pass0 (pa_cons (pv 0) pa_nil)) pa_nil)) (nomark _)))))) (pss_one (ps_never)) pss_nil)
    (pss_one (ps_ret (pv 2)))))
theorem ok_need_forest (T : Tx w K mg) : FnOk P w K mg base CX0 4 (He.fAd K ("need_forest", none)) (fdOf K ("need_forest", none)) ["web", "numbers"] (sp_need_forest K) :=
  T.f_need_forest.ok sc_need_forest len_need_forest fun cdv A outer s H vs Q E hr h => ⟨t_need_forest K, (w_need_forest T hr).nox, pure_need_forest T vs H Q E h⟩
theorem w_Web_tie_of (T : Tx w K mg) {cdv : Value} {A : Around} {outer : List Env} {s : Shared} {H : Hp} {E : XK} {f : Addr} (hr : Room 1 (A.deeper (envOfC "Web.tie_of" (defScope s_Web_tie_of) s.heap.objs.size f cdv))) : PSs (cxOf CX0 P w K mg base n_Web_tie_of "Web.tie_of" (defScope s_Web_tie_of) f cdv A outer s H E).nox (defBody s_Web_tie_of) (t_Web_tie_of K) :=
  pss_cons (ps_if (PW.pt (pw_or (pt_not (pt_val (pe_call (ok_is_whole T) (hr.mono (by decide)) (by rfl) T.g_is_whole T.f_is_whole.kp T.y_is_whole .nil pass0 (pa_cons (pv 1) pa_nil)))) (pw_or1 (pt_cmp (pc_dnotin (hu_of hr) (pv 1) (pe_fld (pv 0) rfl)))))) (pss_one (ps_never)) pss_nil)
    (pss_one (ps_ret (pe_dget (hu_of hr) (pe_fld (pv 0) rfl) (pv 1) (fun _ _ => rfl))))
theorem ok_Web_tie_of (T : Tx w K mg) : FnOk P w K mg base CX0 2 (He.fAd K ("Web", some "tie_of")) (fdOf K ("Web", some "tie_of")) ["self", "number"] (sp_Web_tie_of K) :=
  T.f_Web_tie_of.ok sc_Web_tie_of len_Web_tie_of fun cdv A outer s H vs Q E hr h => ⟨t_Web_tie_of K, (w_Web_tie_of T hr).nox, pure_Web_tie_of T vs H Q E h⟩
theorem w_ring_by (T : Tx w K mg) {cdv : Value} {A : Around} {outer : List Env} {s : Shared} {H : Hp} {E : XK} {f : Addr} (hr : Room 4 (A.deeper (envOfC "ring_by" (defScope s_ring_by) s.heap.objs.size f cdv))) : PSs (cxOf CX0 P w K mg base n_ring_by "ring_by" (defScope s_ring_by) f cdv A outer s H E).nox (defBody s_ring_by) (t_ring_by K) :=
  pss_cons (ps_set (i := 3) sc_ring_by.nd rfl (by first | exact Or.inl rfl | exact Or.inr rfl) (pe_call (ok_need_forest T) (hr.mono (by decide)) (by rfl) T.g_need_forest T.f_need_forest.kp T.y_need_forest .nil pass0 (pa_cons (pv 0) (pa_cons (pv 1) pa_nil))))
    (pss_cons (ps_if (PW.pt (pw_or (pt_not (pt_val (pe_call (ok_is_whole T) (hr.mono (by decide)) (by rfl) T.g_is_whole T.f_is_whole.kp T.y_is_whole .nil pass0 (pa_cons (pv 2) pa_nil)))) (pw_or1 (pt_cmpR op_in_seq (pv 2) (pv 1) (by rfl))))) (pss_one (ps_never)) pss_nil)
    (pss_cons (ps_set (i := 4) sc_ring_by.nd rfl (by first | exact Or.inl rfl | exact Or.inr rfl) (pe_meth (pv 0) T.c_Web T.m_Web_tie_of (ok_Web_tie_of T) (hr.mono (by decide)) T.y_Web_tie_of .nil pass0 (pa_cons (pv 2) pa_nil)))
    (pss_one (ps_ret (pe_op op_cat (pe_lst (pa_cons (pv 2) pa_nil)) (pe_call (ok_way_back T) (hr.mono (by decide)) (by rfl) T.g_way_back T.f_way_back.kp T.y_way_back .nil pass0 (pa_cons (pe_call (ok_came_from T) (hr.mono (by decide)) (by rfl) T.g_came_from T.f_came_from.kp T.y_came_from .nil pass0 (pa_cons (pe_call (ok_ends_by T) (hr.mono (by decide)) (by rfl) T.g_ends_by T.f_ends_by.kp T.y_ends_by .nil pass0 (pa_cons (pv 3) pa_nil)) (pa_cons (pe_fld (pv 4) rfl) pa_nil))) (pa_cons (pe_fld (pv 4) rfl) pa_nil))))))))
theorem ok_ring_by (T : Tx w K mg) : FnOk P w K mg base CX0 5 (He.fAd K ("ring_by", none)) (fdOf K ("ring_by", none)) ["web", "numbers", "number"] (sp_ring_by K) :=
  T.f_ring_by.ok sc_ring_by len_ring_by fun cdv A outer s H vs Q E hr h => ⟨t_ring_by K, (w_ring_by T hr).nox, pure_ring_by T vs H Q E h⟩
theorem w_sides (T : Tx w K mg) {cdv : Value} {A : Around} {outer : List Env} {s : Shared} {H : Hp} {E : XK} {f : Addr} (hr : Room 3 (A.deeper (envOfC "sides" (defScope s_sides) s.heap.objs.size f cdv))) : PSs (cxOf CX0 P w K mg base n_sides "sides" (defScope s_sides) f cdv A outer s H E).nox (defBody s_sides) (t_sides K) :=
  pss_cons (ps_set (i := 1) sc_sides.nd rfl (by first | exact Or.inl rfl | exact Or.inr rfl) (pe_meth0 (pv 0) T.c_Web T.m_Web_ties (ok_Web_ties T) (hr.mono (by decide)) T.y_Web_ties .nil pass0))
    (pss_cons (ps_set (i := 2) sc_sides.nd rfl (by first | exact Or.inl rfl | exact Or.inr rfl) (pe_call (ok_forest T) (hr.mono (by decide)) (by rfl) T.g_forest T.f_forest.kp T.y_forest .nil pass0 (pa_cons (pv 0) pa_nil)))
    (pss_cons (ps_set (i := 3) sc_sides.nd rfl (by first | exact Or.inl rfl | exact Or.inr rfl) (pe_call (ok_ends_by T) (hr.mono (by decide)) (by rfl) T.g_ends_by T.f_ends_by.kp T.y_ends_by .nil pass0 (pa_cons (pe_lc (own := [("tie", 8)]) (by rfl) sc_sides.nd (pi_list (pv 1)) (blkOk_by (own := [("tie", 8)]) (N := n_sides) (sc := defScope s_sides) (by decide +kernel)) (fun _ _ _ _ _ => pg_name (i := 8) sc_sides.nd rfl (by first | exact Or.inl rfl | exact Or.inr rfl)) (fun _ _ _ _ _ => pts_one (pt_cmpR op_in_seq (pe_fld (pv 8) rfl) (pv 2) (by rfl))) (fun _ _ _ _ _ => pv 8)) pa_nil)))
    (pss_cons (ps_set (i := 4) sc_sides.nd rfl (by first | exact Or.inl rfl | exact Or.inr rfl) (pe_dnewK))
    (pss_cons (ps_for PassesOwn.never (by rfl) (pi_list (pe_meth0 (pv 0) T.c_Web T.m_Web_points (ok_Web_points T) (hr.mono (by decide)) T.y_Web_points .nil pass0)) (pg_name (i := 5) sc_sides.nd rfl (by first | exact Or.inl rfl | exact Or.inr rfl)) (pss_one (ps_if (pt_cmp (pc_dnotin (hu_of hr) (pv 5) (pv 4))) (pss_cons (ps_set (i := 6) sc_sides.nd rfl (by first | exact Or.inl rfl | exact Or.inr rfl) (pe_call (ok_came_from T) (hr.mono (by decide)) (by rfl) T.g_came_from T.f_came_from.kp T.y_came_from .nil pass0 (pa_cons (pv 3) (pa_cons (pv 5) pa_nil))))
    (pss_one (ps_lock (ps_for PassesOwn.never (by rfl) (pi_keys (pv 6)) (pg_name (i := 7) sc_sides.nd rfl (by first | exact Or.inl rfl | exact Or.inr rfl)) (pss_one (ps_dput (hu_of hr) (pv 4) (pv 7) (pe_ifExp (pt_cmpR op_isN (pe_ix ix_tup (pe_dget (hu_of hr) (pv 6) (pv 7) (fun _ _ => rfl)) (pe_int) (fun _ _ => rfl)) (pe_non) (nomark _)) (pe_int) (pe_op op_sub (pe_int) (pe_dget (hu_of hr) (pv 4) (pe_ix ix_tup (pe_dget (hu_of hr) (pv 6) (pv 7) (fun _ _ => rfl)) (pe_int) (fun _ _ => rfl)) (fun _ _ => rfl)))) rfl)))))) pss_nil)))
    (pss_cons (ps_for PassesOwn.never (by rfl) (pi_list (pv 1)) (pg_name (i := 8) sc_sides.nd rfl (by first | exact Or.inl rfl | exact Or.inr rfl)) (pss_one (ps_if (pt_cmpR op_eq (pe_dget (hu_of hr) (pv 4) (pe_fld (pv 8) rfl) (fun _ _ => rfl)) (pe_dget (hu_of hr) (pv 4) (pe_fld (pv 8) rfl) (fun _ _ => rfl)) (nomark _)) (pss_one (ps_ret (pe_make T.k_OddRing (ok_OddRing_init T) (hr.mono (by decide)) (by rfl) T.g_OddRing T.y_OddRing_init .nil pass0 (pa_cons (pe_op op_cat (pe_lst (pa_cons (pe_fld (pv 8) rfl) pa_nil)) (pe_call (ok_way_back T) (hr.mono (by decide)) (by rfl) T.g_way_back T.f_way_back.kp T.y_way_back .nil pass0 (pa_cons (pe_call (ok_came_from T) (hr.mono (by decide)) (by rfl) T.g_came_from T.f_came_from.kp T.y_came_from .nil pass0 (pa_cons (pv 3) (pa_cons (pe_fld (pv 8) rfl) pa_nil))) (pa_cons (pe_fld (pv 8) rfl) pa_nil)))) pa_nil)))) pss_nil)))
    (pss_one (ps_ret (pe_make T.k_Sides (ok_Sides_init T) (hr.mono (by decide)) (by rfl) T.g_Sides T.y_Sides_init .nil pass0 (pa_cons (pv 4) pa_nil)))))))))
theorem ok_sides (T : Tx w K mg) : FnOk P w K mg base CX0 4 (He.fAd K ("sides", none)) (fdOf K ("sides", none)) ["web"] (sp_sides K) :=
  T.f_sides.ok sc_sides len_sides fun cdv A outer s H vs Q E hr h => ⟨t_sides K, (w_sides T hr).nox, pure_sides T vs H Q E h⟩
theorem w_need_load (T : Tx w K mg) {cdv : Value} {A : Around} {outer : List Env} {s : Shared} {H : Hp} {E : XK} {f : Addr} (hr : Room 2 (A.deeper (envOfC "need_load" (defScope s_need_load) s.heap.objs.size f cdv))) : PSs (cxOf CX0 P w K mg base n_need_load "need_load" (defScope s_need_load) f cdv A outer s H E).nox (defBody s_need_load) (t_need_load K) :=
  pss_one (ps_if (pt_not (pt_val (pe_call (ok_is_among T) (hr.mono (by decide)) (by rfl) T.g_is_among T.f_is_among.kp T.y_is_among .nil pass0 (pa_cons (pv 0) (pa_cons (pe_int) (pa_cons (pe_glob rfl T.i_MOST.choose_spec ⟨_, rfl⟩) pa_nil)))))) (pss_one (ps_never)) pss_nil)
theorem ok_need_load (T : Tx w K mg) : FnOk P w K mg base CX0 3 (He.fAd K ("need_load", none)) (fdOf K ("need_load", none)) ["load"] (sp_need_load K) :=
  T.f_need_load.ok sc_need_load len_need_load fun cdv A outer s H vs Q E hr h => ⟨t_need_load K, (w_need_load T hr).nox, pure_need_load T vs H Q E h⟩
theorem w_Tie_init (T : Tx w K mg) {cdv : Value} {A : Around} {outer : List Env} {s : Shared} {H : Hp} {E : XK} {f : Addr} (hr : Room 0 (A.deeper (envOfC "Tie.__init__" (defScope s_Tie_init) s.heap.objs.size f cdv))) : PSs (cxOf CX0 P w K mg base n_Tie_init "Tie.__init__" (defScope s_Tie_init) f cdv A outer s H E).nox (defBody s_Tie_init) (t_Tie_init K) :=
  pss_cons (ps_fld (pv 0) (pv 1) rfl)
    (pss_cons (ps_fld (pv 0) (pv 2) rfl)
    (pss_cons (ps_fld (pv 0) (pv 3) rfl)
    (pss_cons (ps_fld (pv 0) (pv 4) rfl)
    (pss_one (ps_fld (pv 0) (pv 5) rfl)))))
theorem ok_Tie_init (T : Tx w K mg) : FnOk P w K mg base CX0 1 (He.fAd K ("Tie", some "__init__")) (fdOf K ("Tie", some "__init__")) ["self", "number", "tail", "head", "load", "is_oneway"] (sp_Tie_init K) :=
  T.f_Tie_init.ok sc_Tie_init len_Tie_init fun cdv A outer s H vs Q E hr h => ⟨t_Tie_init K, (w_Tie_init T hr).nox, pure_Tie_init T vs H Q E h⟩
theorem w_moved_tie (T : Tx w K mg) {cdv : Value} {A : Around} {outer : List Env} {s : Shared} {H : Hp} {E : XK} {f : Addr} (hr : Room 2 (A.deeper (envOfC "moved_tie" (defScope s_moved_tie) s.heap.objs.size f cdv))) : PSs (cxOf CX0 P w K mg base n_moved_tie "moved_tie" (defScope s_moved_tie) f cdv A outer s H E).nox (defBody s_moved_tie) (t_moved_tie K) :=
  pss_cons (ps_set (i := 3) sc_moved_tie.nd rfl (by first | exact Or.inl rfl | exact Or.inr rfl) (pe_ifExp (pt_cmpR op_eq (pe_fld (pv 0) rfl) (pv 1) (nomark _)) (pv 2) (pe_fld (pv 0) rfl)))
    (pss_cons (ps_set (i := 4) sc_moved_tie.nd rfl (by first | exact Or.inl rfl | exact Or.inr rfl) (pe_ifExp (pt_cmpR op_eq (pe_fld (pv 0) rfl) (pv 1) (nomark _)) (pv 2) (pe_fld (pv 0) rfl)))
    (pss_one (ps_ret (pe_make T.k_Tie (ok_Tie_init T) (hr.mono (by decide)) (by rfl) T.g_Tie T.y_Tie_init .nil pass0 (pa_cons (pe_fld (pv 0) rfl) (pa_cons (pv 3) (pa_cons (pv 4) (pa_cons (pe_fld (pv 0) rfl) (pa_cons (pe_fld (pv 0) rfl) pa_nil)))))))))
theorem ok_moved_tie (T : Tx w K mg) : FnOk P w K mg base CX0 3 (He.fAd K ("moved_tie", none)) (fdOf K ("moved_tie", none)) ["tie", "name", "other"] (sp_moved_tie K) :=
  T.f_moved_tie.ok sc_moved_tie len_moved_tie fun cdv A outer s H vs Q E hr h => ⟨t_moved_tie K, (w_moved_tie T hr).nox, pure_moved_tie T vs H Q E h⟩
theorem w_Web_init (T : Tx w K mg) {cdv : Value} {A : Around} {outer : List Env} {s : Shared} {H : Hp} {E : XK} {f : Addr} (hr : Room 0 (A.deeper (envOfC "Web.__init__" (defScope s_Web_init) s.heap.objs.size f cdv))) : PSs (cxOf CX0 P w K mg base n_Web_init "Web.__init__" (defScope s_Web_init) f cdv A outer s H E).nox (defBody s_Web_init) (t_Web_init K) :=
  pss_cons (ps_fld (pv 0) (pe_lst pa_nil) rfl)
    (pss_cons (ps_fld (pv 0) (pe_dnewK) rfl)
    (pss_one (ps_fld (pv 0) (pe_int) rfl)))
theorem ok_Web_init (T : Tx w K mg) : FnOk P w K mg base CX0 1 (He.fAd K ("Web", some "__init__")) (fdOf K ("Web", some "__init__")) ["self"] (sp_Web_init K) :=
  T.f_Web_init.ok sc_Web_init len_Web_init fun cdv A outer s H vs Q E hr h => ⟨t_Web_init K, (w_Web_init T hr).nox, pure_Web_init T vs H Q E h⟩
theorem w_Web_given (T : Tx w K mg) {cdv : Value} {A : Around} {outer : List Env} {s : Shared} {H : Hp} {E : XK} {f : Addr} (hr : Room 0 (A.deeper (envOfC "Web.given" (defScope s_Web_given) s.heap.objs.size f cdv))) : PSs (cxOf CX0 P w K mg base n_Web_given "Web.given" (defScope s_Web_given) f cdv A outer s H E).nox (defBody s_Web_given) (t_Web_given K) :=
  pss_one (ps_ret (pe_fld (pv 0) rfl))
theorem ok_Web_given (T : Tx w K mg) : FnOk P w K mg base CX0 1 (He.fAd K ("Web", some "given")) (fdOf K ("Web", some "given")) ["self"] (sp_Web_given K) :=
  T.f_Web_given.ok sc_Web_given len_Web_given fun cdv A outer s H vs Q E hr h => ⟨t_Web_given K, (w_Web_given T hr).nox, pure_Web_given T vs H Q E h⟩
theorem w_Web_need_new (T : Tx w K mg) {cdv : Value} {A : Around} {outer : List Env} {s : Shared} {H : Hp} {E : XK} {f : Addr} (hr : Room 2 (A.deeper (envOfC "Web.need_new" (defScope s_Web_need_new) s.heap.objs.size f cdv))) : PSs (cxOf CX0 P w K mg base n_Web_need_new "Web.need_new" (defScope s_Web_need_new) f cdv A outer s H E).nox (defBody s_Web_need_new) (t_Web_need_new K) :=
  pss_cons (ps_if (pt_not (pt_val (pe_call (ok_is_name T) (hr.mono (by decide)) (by rfl) T.g_is_name T.f_is_name.kp T.y_is_name .nil pass0 (pa_cons (pv 1) pa_nil)))) (pss_one (ps_never)) pss_nil)
    (pss_one (ps_if (pt_cmpR op_in_seq (pv 1) (pe_fld (pv 0) rfl) (by rfl)) (pss_one (ps_never)) pss_nil))
theorem ok_Web_need_new (T : Tx w K mg) : FnOk P w K mg base CX0 3 (He.fAd K ("Web", some "need_new")) (fdOf K ("Web", some "need_new")) ["self", "name"] (sp_Web_need_new K) :=
  T.f_Web_need_new.ok sc_Web_need_new len_Web_need_new fun cdv A outer s H vs Q E hr h => ⟨t_Web_need_new K, (w_Web_need_new T hr).nox, pure_Web_need_new T vs H Q E h⟩
theorem w_Web_need_room (T : Tx w K mg) {cdv : Value} {A : Around} {outer : List Env} {s : Shared} {H : Hp} {E : XK} {f : Addr} (hr : Room 0 (A.deeper (envOfC "Web.need_room" (defScope s_Web_need_room) s.heap.objs.size f cdv))) : PSs (cxOf CX0 P w K mg base n_Web_need_room "Web.need_room" (defScope s_Web_need_room) f cdv A outer s H E).nox (defBody s_Web_need_room) (t_Web_need_room K) :=
  pss_one (ps_if (pt_cmpR op_eq (pe_callB call_len_seq (by rfl) T.b_len (by decide +kernel) (pa_cons (pe_fld (pv 0) rfl) pa_nil)) (pe_glob rfl T.i_MOST_POINTS.choose_spec ⟨_, rfl⟩) (nomark _)) (pss_one (ps_never)) pss_nil)
theorem ok_Web_need_room (T : Tx w K mg) : FnOk P w K mg base CX0 1 (He.fAd K ("Web", some "need_room")) (fdOf K ("Web", some "need_room")) ["self"] (sp_Web_need_room K) :=
  T.f_Web_need_room.ok sc_Web_need_room len_Web_need_room fun cdv A outer s H vs Q E hr h => ⟨t_Web_need_room K, (w_Web_need_room T hr).nox, pure_Web_need_room T vs H Q E h⟩
theorem w_Web_put_point (T : Tx w K mg) {cdv : Value} {A : Around} {outer : List Env} {s : Shared} {H : Hp} {E : XK} {f : Addr} (hr : Room 3 (A.deeper (envOfC "Web.put_point" (defScope s_Web_put_point) s.heap.objs.size f cdv))) : PSs (cxOf CX0 P w K mg base n_Web_put_point "Web.put_point" (defScope s_Web_put_point) f cdv A outer s H E).nox (defBody s_Web_put_point) (t_Web_put_point K) :=
  pss_cons (ps_expr (pe_meth (pv 0) T.c_Web T.m_Web_need_new (ok_Web_need_new T) (hr.mono (by decide)) T.y_Web_need_new .nil pass0 (pa_cons (pv 1) pa_nil)))
    (pss_cons (ps_expr (pe_meth0 (pv 0) T.c_Web T.m_Web_need_room (ok_Web_need_room T) (hr.mono (by decide)) T.y_Web_need_room .nil pass0))
    (pss_one (ps_expr (pe_bm PySem.F.plainAttrs_list PySem.F.slot_list_append PySem.F.type_list_append mt_append (pe_fld (pv 0) rfl) (pa_cons (pv 1) pa_nil)))))
theorem ok_Web_put_point (T : Tx w K mg) : FnOk P w K mg base CX0 4 (He.fAd K ("Web", some "put_point")) (fdOf K ("Web", some "put_point")) ["self", "name"] (sp_Web_put_point K) :=
  T.f_Web_put_point.ok sc_Web_put_point len_Web_put_point fun cdv A outer s H vs Q E hr h => ⟨t_Web_put_point K, (w_Web_put_point T hr).nox, pure_Web_put_point T vs H Q E h⟩
theorem w_Web_drop_point (T : Tx w K mg) {cdv : Value} {A : Around} {outer : List Env} {s : Shared} {H : Hp} {E : XK} {f : Addr} (hr : Room 1 (A.deeper (envOfC "Web.drop_point" (defScope s_Web_drop_point) s.heap.objs.size f cdv))) : PSs (cxOf CX0 P w K mg base n_Web_drop_point "Web.drop_point" (defScope s_Web_drop_point) f cdv A outer s H E).nox (defBody s_Web_drop_point) (t_Web_drop_point K) :=
  pss_cons (ps_expr (pe_meth (pv 0) T.c_Web T.m_Web_need_point (ok_Web_need_point T) (hr.mono (by decide)) T.y_Web_need_point .nil pass0 (pa_cons (pv 1) pa_nil)))
    (pss_cons (ps_if (pt_val (pe_callB (cr_any (by rfl)) (by rfl) T.b_any (by decide +kernel) (pa_cons (pe_lc (own := [("tie", 2)]) (by rfl) sc_Web_drop_point.nd (pi_list (pe_meth0 (pv 0) T.c_Web T.m_Web_ties (ok_Web_ties T) (hr.mono (by decide)) T.y_Web_ties .nil pass0)) (blkOk_by (own := [("tie", 2)]) (N := n_Web_drop_point) (sc := defScope s_Web_drop_point) (by decide +kernel)) (fun _ _ _ _ _ => pg_name (i := 2) sc_Web_drop_point.nd rfl (by first | exact Or.inl rfl | exact Or.inr rfl)) (fun _ _ _ _ _ => pts_nil) (fun _ _ _ _ _ => pe_cmpR op_in_seq (pv 1) (pe_tup (pa_cons (pe_fld (pv 2) rfl) (pa_cons (pe_fld (pv 2) rfl) pa_nil))) (by rfl))) pa_nil))) (pss_one (ps_never)) pss_nil)
    (pss_one (ps_expr (pe_bm PySem.F.plainAttrs_list PySem.F.slot_list_remove PySem.F.type_list_remove mt_removeS (pe_fld (pv 0) rfl) (pa_cons (pv 1) pa_nil)))))
theorem ok_Web_drop_point (T : Tx w K mg) : FnOk P w K mg base CX0 2 (He.fAd K ("Web", some "drop_point")) (fdOf K ("Web", some "drop_point")) ["self", "name"] (sp_Web_drop_point K) :=
  T.f_Web_drop_point.ok sc_Web_drop_point len_Web_drop_point fun cdv A outer s H vs Q E hr h => ⟨t_Web_drop_point K, (w_Web_drop_point T hr).nox, pure_Web_drop_point T vs H Q E h⟩
theorem w_Web_move_all (T : Tx w K mg) {cdv : Value} {A : Around} {outer : List Env} {s : Shared} {H : Hp} {E : XK} {f : Addr} (hr : Room 3 (A.deeper (envOfC "Web.move_all" (defScope s_Web_move_all) s.heap.objs.size f cdv))) : PSs (cxOf CX0 P w K mg base n_Web_move_all "Web.move_all" (defScope s_Web_move_all) f cdv A outer s H E).nox (defBody s_Web_move_all) (t_Web_move_all K) :=
  pss_one (ps_for PassesOwn.never (by rfl) (pi_list (pe_meth0 (pv 0) T.c_Web T.m_Web_ties (ok_Web_ties T) (hr.mono (by decide)) T.y_Web_ties .nil pass0)) (pg_name (i := 3) sc_Web_move_all.nd rfl (by first | exact Or.inl rfl | exact Or.inr rfl)) (pss_one (ps_dput (hu_of hr) (pe_fld (pv 0) rfl) (pe_fld (pv 3) rfl) (pe_call (ok_moved_tie T) (hr.mono (by decide)) (by rfl) T.g_moved_tie T.f_moved_tie.kp T.y_moved_tie .nil pass0 (pa_cons (pv 3) (pa_cons (pv 1) (pa_cons (pv 2) pa_nil)))) rfl)))
theorem ok_Web_move_all (T : Tx w K mg) : FnOk P w K mg base CX0 4 (He.fAd K ("Web", some "move_all")) (fdOf K ("Web", some "move_all")) ["self", "name", "other"] (sp_Web_move_all K) :=
  T.f_Web_move_all.ok sc_Web_move_all len_Web_move_all fun cdv A outer s H vs Q E hr h => ⟨t_Web_move_all K, (w_Web_move_all T hr).nox, pure_Web_move_all T vs H Q E h⟩
theorem w_Web_rename (T : Tx w K mg) {cdv : Value} {A : Around} {outer : List Env} {s : Shared} {H : Hp} {E : XK} {f : Addr} (hr : Room 4 (A.deeper (envOfC "Web.rename" (defScope s_Web_rename) s.heap.objs.size f cdv))) : PSs (cxOf CX0 P w K mg base n_Web_rename "Web.rename" (defScope s_Web_rename) f cdv A outer s H E).nox (defBody s_Web_rename) (t_Web_rename K) :=
  pss_cons (ps_expr (pe_meth (pv 0) T.c_Web T.m_Web_need_point (ok_Web_need_point T) (hr.mono (by decide)) T.y_Web_need_point .nil pass0 (pa_cons (pv 1) pa_nil)))
    (pss_cons (ps_expr (pe_meth (pv 0) T.c_Web T.m_Web_need_new (ok_Web_need_new T) (hr.mono (by decide)) T.y_Web_need_new .nil pass0 (pa_cons (pv 2) pa_nil)))
    (pss_cons (ps_asg (pv 2) (pg_sub (pe_fld (pv 0) rfl) (pe_bm PySem.F.plainAttrs_list PySem.F.slot_list_index PySem.F.type_list_index mt_index (pe_fld (pv 0) rfl) (pa_cons (pv 1) pa_nil)) set_list))
    (pss_one (ps_expr (pe_meth (pv 0) T.c_Web T.m_Web_move_all (ok_Web_move_all T) (hr.mono (by decide)) T.y_Web_move_all .nil pass0 (pa_cons (pv 1) (pa_cons (pv 2) pa_nil)))))))
theorem ok_Web_rename (T : Tx w K mg) : FnOk P w K mg base CX0 5 (He.fAd K ("Web", some "rename")) (fdOf K ("Web", some "rename")) ["self", "name", "other"] (sp_Web_rename K) :=
  T.f_Web_rename.ok sc_Web_rename len_Web_rename fun cdv A outer s H vs Q E hr h => ⟨t_Web_rename K, (w_Web_rename T hr).nox, pure_Web_rename T vs H Q E h⟩
theorem w_Web_put_numbered (T : Tx w K mg) {cdv : Value} {A : Around} {outer : List Env} {s : Shared} {H : Hp} {E : XK} {f : Addr} (hr : Room 3 (A.deeper (envOfC "Web.put_numbered" (defScope s_Web_put_numbered) s.heap.objs.size f cdv))) : PSs (cxOf CX0 P w K mg base n_Web_put_numbered "Web.put_numbered" (defScope s_Web_put_numbered) f cdv A outer s H E).nox (defBody s_Web_put_numbered) (t_Web_put_numbered K) :=
  pss_cons (ps_expr (pe_meth (pv 0) T.c_Web T.m_Web_need_point (ok_Web_need_point T) (hr.mono (by decide)) T.y_Web_need_point .nil pass0 (pa_cons (pv 2) pa_nil)))
    (pss_cons (ps_expr (pe_meth (pv 0) T.c_Web T.m_Web_need_point (ok_Web_need_point T) (hr.mono (by decide)) T.y_Web_need_point .nil pass0 (pa_cons (pv 3) pa_nil)))
    (pss_cons (ps_if (PW.pt (pw_or (pt_cmpR op_eq (pv 2) (pv 3) (nomark _)) (pw_or1 (pt_not (pt_val (pe_callB call_isi (by rfl) T.b_isinstance (by decide +kernel) (pa_cons (pv 5) (pa_cons (pe_bltn (v := .ty "bool") (u := .type "bool") (by rfl) T.b_bool (by decide +kernel) rfl) pa_nil)))))))) (pss_one (ps_never)) pss_nil)
    (pss_cons (ps_expr (pe_call (ok_need_load T) (hr.mono (by decide)) (by rfl) T.g_need_load T.f_need_load.kp T.y_need_load .nil pass0 (pa_cons (pv 4) pa_nil)))
    (pss_cons (ps_if (pt_cmpR op_eq (pe_callB call_lenD (by rfl) T.b_len (by decide +kernel) (pa_cons (pe_fld (pv 0) rfl) pa_nil)) (pe_glob rfl T.i_MOST_TIES.choose_spec ⟨_, rfl⟩) (nomark _)) (pss_one (ps_never)) pss_nil)
    (pss_cons (ps_dput (hu_of hr) (pe_fld (pv 0) rfl) (pv 1) (pe_make T.k_Tie (ok_Tie_init T) (hr.mono (by decide)) (by rfl) T.g_Tie T.y_Tie_init .nil pass0 (pa_cons (pv 1) (pa_cons (pv 2) (pa_cons (pv 3) (pa_cons (pv 4) (pa_cons (pv 5) pa_nil)))))) rfl)
    (pss_cons (ps_fld (pv 0) (pv 1) rfl)
    (pss_one (ps_ret (pv 1)))))))))
theorem ok_Web_put_numbered (T : Tx w K mg) : FnOk P w K mg base CX0 4 (He.fAd K ("Web", some "put_numbered")) (fdOf K ("Web", some "put_numbered")) ["self", "number", "tail", "head", "load", "is_oneway"] (sp_Web_put_numbered K) :=
  T.f_Web_put_numbered.ok sc_Web_put_numbered len_Web_put_numbered fun cdv A outer s H vs Q E hr h => ⟨t_Web_put_numbered K, (w_Web_put_numbered T hr).nox, pure_Web_put_numbered T vs H Q E h⟩
theorem w_Web_put_tie (T : Tx w K mg) {cdv : Value} {A : Around} {outer : List Env} {s : Shared} {H : Hp} {E : XK} {f : Addr} (hr : Room 4 (A.deeper (envOfC "Web.put_tie" (defScope s_Web_put_tie) s.heap.objs.size f cdv))) : PSs (cxOf CX0 P w K mg base n_Web_put_tie "Web.put_tie" (defScope s_Web_put_tie) f cdv A outer s H E).nox (defBody s_Web_put_tie) (t_Web_put_tie K) :=
  pss_one (ps_ret (pe_meth (pv 0) T.c_Web T.m_Web_put_numbered (ok_Web_put_numbered T) (hr.mono (by decide)) T.y_Web_put_numbered .nil pass0 (pa_cons (pe_op op_add (pe_fld (pv 0) rfl) (pe_int)) (pa_cons (pv 1) (pa_cons (pv 2) (pa_cons (pv 3) (pa_cons (pv 4) pa_nil)))))))
theorem ok_Web_put_tie (T : Tx w K mg) : FnOk P w K mg base CX0 5 (He.fAd K ("Web", some "put_tie")) (fdOf K ("Web", some "put_tie")) ["self", "tail", "head", "load", "is_oneway"] (sp_Web_put_tie K) :=
  T.f_Web_put_tie.ok sc_Web_put_tie len_Web_put_tie fun cdv A outer s H vs Q E hr h => ⟨t_Web_put_tie K, (w_Web_put_tie T hr).nox, pure_Web_put_tie T vs H Q E h⟩
theorem w_Web_drop_tie (T : Tx w K mg) {cdv : Value} {A : Around} {outer : List Env} {s : Shared} {H : Hp} {E : XK} {f : Addr} (hr : Room 2 (A.deeper (envOfC "Web.drop_tie" (defScope s_Web_drop_tie) s.heap.objs.size f cdv))) : PSs (cxOf CX0 P w K mg base n_Web_drop_tie "Web.drop_tie" (defScope s_Web_drop_tie) f cdv A outer s H E).nox (defBody s_Web_drop_tie) (t_Web_drop_tie K) :=
  pss_cons (ps_expr (pe_meth (pv 0) T.c_Web T.m_Web_tie_of (ok_Web_tie_of T) (hr.mono (by decide)) T.y_Web_tie_of .nil pass0 (pa_cons (pv 1) pa_nil)))
    (pss_one (ps_expr (pe_dpop1 (pe_fld (pv 0) rfl) (pv 1) ⟨by rfl, by rfl, by rfl, by rfl⟩)))
theorem ok_Web_drop_tie (T : Tx w K mg) : FnOk P w K mg base CX0 3 (He.fAd K ("Web", some "drop_tie")) (fdOf K ("Web", some "drop_tie")) ["self", "number"] (sp_Web_drop_tie K) :=
  T.f_Web_drop_tie.ok sc_Web_drop_tie len_Web_drop_tie fun cdv A outer s H vs Q E hr h => ⟨t_Web_drop_tie K, (w_Web_drop_tie T hr).nox, pure_Web_drop_tie T vs H Q E h⟩
theorem w_Web_set_load (T : Tx w K mg) {cdv : Value} {A : Around} {outer : List Env} {s : Shared} {H : Hp} {E : XK} {f : Addr} (hr : Room 3 (A.deeper (envOfC "Web.set_load" (defScope s_Web_set_load) s.heap.objs.size f cdv))) : PSs (cxOf CX0 P w K mg base n_Web_set_load "Web.set_load" (defScope s_Web_set_load) f cdv A outer s H E).nox (defBody s_Web_set_load) (t_Web_set_load K) :=
  pss_cons (ps_set (i := 3) sc_Web_set_load.nd rfl (by first | exact Or.inl rfl | exact Or.inr rfl) (pe_meth (pv 0) T.c_Web T.m_Web_tie_of (ok_Web_tie_of T) (hr.mono (by decide)) T.y_Web_tie_of .nil pass0 (pa_cons (pv 1) pa_nil)))
    (pss_cons (ps_expr (pe_call (ok_need_load T) (hr.mono (by decide)) (by rfl) T.g_need_load T.f_need_load.kp T.y_need_load .nil pass0 (pa_cons (pv 2) pa_nil)))
    (pss_one (ps_dput (hu_of hr) (pe_fld (pv 0) rfl) (pv 1) (pe_make T.k_Tie (ok_Tie_init T) (hr.mono (by decide)) (by rfl) T.g_Tie T.y_Tie_init .nil pass0 (pa_cons (pv 1) (pa_cons (pe_fld (pv 3) rfl) (pa_cons (pe_fld (pv 3) rfl) (pa_cons (pv 2) (pa_cons (pe_fld (pv 3) rfl) pa_nil)))))) rfl)))
theorem ok_Web_set_load (T : Tx w K mg) : FnOk P w K mg base CX0 4 (He.fAd K ("Web", some "set_load")) (fdOf K ("Web", some "set_load")) ["self", "number", "load"] (sp_Web_set_load K) :=
  T.f_Web_set_load.ok sc_Web_set_load len_Web_set_load fun cdv A outer s H vs Q E hr h => ⟨t_Web_set_load K, (w_Web_set_load T hr).nox, pure_Web_set_load T vs H Q E h⟩
theorem w_Web_join (T : Tx w K mg) {cdv : Value} {A : Around} {outer : List Env} {s : Shared} {H : Hp} {E : XK} {f : Addr} (hr : Room 4 (A.deeper (envOfC "Web.join" (defScope s_Web_join) s.heap.objs.size f cdv))) : PSs (cxOf CX0 P w K mg base n_Web_join "Web.join" (defScope s_Web_join) f cdv A outer s H E).nox (defBody s_Web_join) (t_Web_join K) :=
  pss_cons (ps_expr (pe_meth (pv 0) T.c_Web T.m_Web_need_point (ok_Web_need_point T) (hr.mono (by decide)) T.y_Web_need_point .nil pass0 (pa_cons (pv 1) pa_nil)))
    (pss_cons (ps_expr (pe_meth (pv 0) T.c_Web T.m_Web_need_point (ok_Web_need_point T) (hr.mono (by decide)) T.y_Web_need_point .nil pass0 (pa_cons (pv 2) pa_nil)))
    (pss_cons (ps_if (pt_cmpR op_eq (pv 1) (pv 2) (nomark _)) (pss_one (ps_never)) pss_nil)
    (pss_cons (ps_for PassesOwn.never (by rfl) (pi_list (pe_meth0 (pv 0) T.c_Web T.m_Web_ties (ok_Web_ties T) (hr.mono (by decide)) T.y_Web_ties .nil pass0)) (pg_name (i := 3) sc_Web_join.nd rfl (by first | exact Or.inl rfl | exact Or.inr rfl)) (pss_one (ps_if (PW.pt (pw_and (pt_cmpR op_in_seq (pv 1) (pe_tup (pa_cons (pe_fld (pv 3) rfl) (pa_cons (pe_fld (pv 3) rfl) pa_nil))) (by rfl)) (pw_and1 (pt_cmpR op_in_seq (pv 2) (pe_tup (pa_cons (pe_fld (pv 3) rfl) (pa_cons (pe_fld (pv 3) rfl) pa_nil))) (by rfl))))) (pss_one (ps_expr (pe_dpop1 (pe_fld (pv 0) rfl) (pe_fld (pv 3) rfl) ⟨by rfl, by rfl, by rfl, by rfl⟩))) pss_nil)))
    (pss_cons (ps_expr (pe_meth (pv 0) T.c_Web T.m_Web_move_all (ok_Web_move_all T) (hr.mono (by decide)) T.y_Web_move_all .nil pass0 (pa_cons (pv 2) (pa_cons (pv 1) pa_nil))))
    (pss_one (ps_expr (pe_bm PySem.F.plainAttrs_list PySem.F.slot_list_remove PySem.F.type_list_remove mt_removeS (pe_fld (pv 0) rfl) (pa_cons (pv 2) pa_nil))))))))
theorem ok_Web_join (T : Tx w K mg) : FnOk P w K mg base CX0 5 (He.fAd K ("Web", some "join")) (fdOf K ("Web", some "join")) ["self", "name", "other"] (sp_Web_join K) :=
  T.f_Web_join.ok sc_Web_join len_Web_join fun cdv A outer s H vs Q E hr h => ⟨t_Web_join K, (w_Web_join T hr).nox, pure_Web_join T vs H Q E h⟩
theorem w_Web_part (T : Tx w K mg) {cdv : Value} {A : Around} {outer : List Env} {s : Shared} {H : Hp} {E : XK} {f : Addr} (hr : Room 3 (A.deeper (envOfC "Web.part" (defScope s_Web_part) s.heap.objs.size f cdv))) : PSs (cxOf CX0 P w K mg base n_Web_part "Web.part" (defScope s_Web_part) f cdv A outer s H E).nox (defBody s_Web_part) (t_Web_part K) :=
  pss_cons (ps_expr (pe_meth (pv 0) T.c_Web T.m_Web_need_point (ok_Web_need_point T) (hr.mono (by decide)) T.y_Web_need_point .nil pass0 (pa_cons (pv 1) pa_nil)))
    (pss_cons (ps_expr (pe_meth (pv 0) T.c_Web T.m_Web_need_new (ok_Web_need_new T) (hr.mono (by decide)) T.y_Web_need_new .nil pass0 (pa_cons (pv 2) pa_nil)))
    (pss_cons (ps_expr (pe_meth0 (pv 0) T.c_Web T.m_Web_need_room (ok_Web_need_room T) (hr.mono (by decide)) T.y_Web_need_room .nil pass0))
    (pss_cons (ps_if (pt_not (pt_val (pe_callB call_isi (by rfl) T.b_isinstance (by decide +kernel) (pa_cons (pv 3) (pa_cons (pe_bltn (v := .ty "list") (u := .type "list") (by rfl) T.b_list (by decide +kernel) rfl) pa_nil))))) (pss_one (ps_never)) pss_nil)
    (pss_cons (ps_set (i := 4) sc_Web_part.nd rfl (by first | exact Or.inl rfl | exact Or.inr rfl) (pe_lst pa_nil))
    (pss_cons (ps_for PassesOwn.never (by rfl) (pi_list (pv 3)) (pg_name (i := 5) sc_Web_part.nd rfl (by first | exact Or.inl rfl | exact Or.inr rfl)) (pss_cons (ps_set (i := 6) sc_Web_part.nd rfl (by first | exact Or.inl rfl | exact Or.inr rfl) (pe_meth (pv 0) T.c_Web T.m_Web_tie_of (ok_Web_tie_of T) (hr.mono (by decide)) T.y_Web_tie_of .nil pass0 (pa_cons (pv 5) pa_nil)))
    (pss_cons (ps_if (PW.pt (pw_or (pt_cmpR op_notIn_seq (pv 1) (pe_tup (pa_cons (pe_fld (pv 6) rfl) (pa_cons (pe_fld (pv 6) rfl) pa_nil))) (by rfl)) (pw_or1 (pt_cmpR op_in_seq (pv 5) (pv 4) (by rfl))))) (pss_one (ps_never)) pss_nil)
    (pss_one (ps_expr (pe_bm PySem.F.plainAttrs_list PySem.F.slot_list_append PySem.F.type_list_append mt_append (pv 4) (pa_cons (pv 5) pa_nil)))))))
    (pss_cons (ps_expr (pe_bm PySem.F.plainAttrs_list PySem.F.slot_list_append PySem.F.type_list_append mt_append (pe_fld (pv 0) rfl) (pa_cons (pv 2) pa_nil)))
    (pss_one (ps_for PassesOwn.never (by rfl) (pi_list (pv 4)) (pg_name (i := 5) sc_Web_part.nd rfl (by first | exact Or.inl rfl | exact Or.inr rfl)) (pss_one (ps_dput (hu_of hr) (pe_fld (pv 0) rfl) (pv 5) (pe_call (ok_moved_tie T) (hr.mono (by decide)) (by rfl) T.g_moved_tie T.f_moved_tie.kp T.y_moved_tie .nil pass0 (pa_cons (pe_dget (hu_of hr) (pe_fld (pv 0) rfl) (pv 5) (fun _ _ => rfl)) (pa_cons (pv 1) (pa_cons (pv 2) pa_nil)))) rfl))))))))))
theorem ok_Web_part (T : Tx w K mg) : FnOk P w K mg base CX0 4 (He.fAd K ("Web", some "part")) (fdOf K ("Web", some "part")) ["self", "name", "other", "numbers"] (sp_Web_part K) :=
  T.f_Web_part.ok sc_Web_part len_Web_part fun cdv A outer s H vs Q E hr h => ⟨t_Web_part K, (w_Web_part T hr).nox, pure_Web_part T vs H Q E h⟩
theorem w_Web_give (T : Tx w K mg) {cdv : Value} {A : Around} {outer : List Env} {s : Shared} {H : Hp} {E : XK} {f : Addr} (hr : Room 0 (A.deeper (envOfC "Web.give" (defScope s_Web_give) s.heap.objs.size f cdv))) : PSs (cxOf CX0 P w K mg base n_Web_give "Web.give" (defScope s_Web_give) f cdv A outer s H E).nox (defBody s_Web_give) (t_Web_give K) :=
  pss_one (ps_fld (pv 0) (pv 1) rfl)
theorem ok_Web_give (T : Tx w K mg) : FnOk P w K mg base CX0 1 (He.fAd K ("Web", some "give")) (fdOf K ("Web", some "give")) ["self", "number"] (sp_Web_give K) :=
  T.f_Web_give.ok sc_Web_give len_Web_give fun cdv A outer s H vs Q E hr h => ⟨t_Web_give K, (w_Web_give T hr).nox, pure_Web_give T vs H Q E h⟩
theorem w_tie_line (T : Tx w K mg) {cdv : Value} {A : Around} {outer : List Env} {s : Shared} {H : Hp} {E : XK} {f : Addr} (hr : Room 1 (A.deeper (envOfC "tie_line" (defScope s_tie_line) s.heap.objs.size f cdv))) : PSs (cxOf CX0 P w K mg base n_tie_line "tie_line" (defScope s_tie_line) f cdv A outer s H E).nox (defBody s_tie_line) (t_tie_line K) :=
  pss_cons (ps_set (i := 1) sc_tie_line.nd rfl (by first | exact Or.inl rfl | exact Or.inr rfl) (pe_ifExp (pt_val (pe_fld (pv 0) rfl)) (pe_str) (pe_str)))
    (pss_one (ps_ret (pe_join (pe_str) (pe_lst (pa_cons (pv 1) (pa_cons (pe_call (ok_number_text T) (hr.mono (by decide)) (by rfl) T.g_number_text T.f_number_text.kp T.y_number_text .nil pass0 (pa_cons (pe_fld (pv 0) rfl) pa_nil)) (pa_cons (pe_fld (pv 0) rfl) (pa_cons (pe_fld (pv 0) rfl) (pa_cons (pe_call (ok_number_text T) (hr.mono (by decide)) (by rfl) T.g_number_text T.f_number_text.kp T.y_number_text .nil pass0 (pa_cons (pe_fld (pv 0) rfl) pa_nil)) pa_nil)))))))))
theorem ok_tie_line (T : Tx w K mg) : FnOk P w K mg base CX0 2 (He.fAd K ("tie_line", none)) (fdOf K ("tie_line", none)) ["tie"] (sp_tie_line K) :=
  T.f_tie_line.ok sc_tie_line len_tie_line fun cdv A outer s H vs Q E hr h => ⟨t_tie_line K, (w_tie_line T hr).nox, pure_tie_line T vs H Q E h⟩
theorem w_web_lines (T : Tx w K mg) {cdv : Value} {A : Around} {outer : List Env} {s : Shared} {H : Hp} {E : XK} {f : Addr} (hr : Room 2 (A.deeper (envOfC "web_lines" (defScope s_web_lines) s.heap.objs.size f cdv))) : PSs (cxOf CX0 P w K mg base n_web_lines "web_lines" (defScope s_web_lines) f cdv A outer s H E).nox (defBody s_web_lines) (t_web_lines K) :=
  pss_cons (ps_setLc (i := 1) (own := [("name", 2)]) (by rfl) sc_web_lines.nd rfl rfl (sw_true rfl rfl rfl (by decide +kernel)) (pi_list (pe_meth0 (pv 0) T.c_Web T.m_Web_points (ok_Web_points T) (hr.mono (by decide)) T.y_Web_points .nil pass0)) (blkOk_by (own := [("name", 2)]) (N := n_web_lines) (sc := defScope s_web_lines) (by decide +kernel)) (fun _ _ _ _ _ => pg_name (i := 2) sc_web_lines.nd rfl (by first | exact Or.inl rfl | exact Or.inr rfl)) (fun _ _ _ _ _ => pts_nil) (fun _ _ _ _ _ => pe_op op_add_str (pe_str) (pv 2)))
    (pss_cons (ps_expr (pe_bm PySem.F.plainAttrs_list PySem.F.slot_list_extend PySem.F.type_list_extend mt_extend (pv 1) (pa_cons (pe_lc (own := [("tie", 3)]) (by rfl) sc_web_lines.nd (pi_list (pe_meth0 (pv 0) T.c_Web T.m_Web_ties (ok_Web_ties T) (hr.mono (by decide)) T.y_Web_ties .nil pass0)) (blkOk_by (own := [("tie", 3)]) (N := n_web_lines) (sc := defScope s_web_lines) (by decide +kernel)) (fun _ _ _ _ _ => pg_name (i := 3) sc_web_lines.nd rfl (by first | exact Or.inl rfl | exact Or.inr rfl)) (fun _ _ _ _ _ => pts_nil) (fun _ _ _ _ _ => pe_call (ok_tie_line T) (hr.mono (by decide)) (by rfl) T.g_tie_line T.f_tie_line.kp T.y_tie_line .nil pass0 (pa_cons (pv 3) pa_nil))) pa_nil)))
    (pss_one (ps_ret (pe_op op_cat (pv 1) (pe_lst (pa_cons (pe_op op_add_str (pe_str) (pe_call (ok_number_text T) (hr.mono (by decide)) (by rfl) T.g_number_text T.f_number_text.kp T.y_number_text .nil pass0 (pa_cons (pe_meth0 (pv 0) T.c_Web T.m_Web_given (ok_Web_given T) (hr.mono (by decide)) T.y_Web_given .nil pass0) pa_nil))) pa_nil))))))
theorem ok_web_lines (T : Tx w K mg) : FnOk P w K mg base CX0 3 (He.fAd K ("web_lines", none)) (fdOf K ("web_lines", none)) ["web"] (sp_web_lines K) :=
  T.f_web_lines.ok sc_web_lines len_web_lines fun cdv A outer s H vs Q E hr h => ⟨t_web_lines K, (w_web_lines T hr).nox, pure_web_lines T vs H Q E h⟩
theorem w_need_line (T : Tx w K mg) {cdv : Value} {A : Around} {outer : List Env} {s : Shared} {H : Hp} {E : XK} {f : Addr} (hr : Room 0 (A.deeper (envOfC "need_line" (defScope s_need_line) s.heap.objs.size f cdv))) : PSs (cxOf CX0 P w K mg base n_need_line "need_line" (defScope s_need_line) f cdv A outer s H E).nox (defBody s_need_line) (t_need_line K) :=
  pss_one (ps_if (pt_not (pt_val (pv 0))) (pss_one (ps_never)) pss_nil)
theorem ok_need_line (T : Tx w K mg) : FnOk P w K mg base CX0 1 (He.fAd K ("need_line", none)) (fdOf K ("need_line", none)) ["good"] (sp_need_line K) :=
  T.f_need_line.ok sc_need_line len_need_line fun cdv A outer s H vs Q E hr h => ⟨t_need_line K, (w_need_line T hr).nox, pure_need_line T vs H Q E h⟩
theorem w_put_tie_line (T : Tx w K mg) {cdv : Value} {A : Around} {outer : List Env} {s : Shared} {H : Hp} {E : XK} {f : Addr} (hr : Room 4 (A.deeper (envOfC "put_tie_line" (defScope s_put_tie_line) s.heap.objs.size f cdv))) : PSs (cxOf CX0 P w K mg base n_put_tie_line "put_tie_line" (defScope s_put_tie_line) f cdv A outer s H E).nox (defBody s_put_tie_line) (t_put_tie_line K) :=
  pss_cons (ps_expr (pe_call (ok_need_line T) (hr.mono (by decide)) (by rfl) T.g_need_line T.f_need_line.kp T.y_need_line .nil pass0 (pa_cons (pe_cmpR op_eq (pe_callB call_len_seq (by rfl) T.b_len (by decide +kernel) (pa_cons (pv 1) pa_nil)) (pe_int) (nomark _)) pa_nil)))
    (pss_cons (ps_par (by rfl) sc_put_tie_line.nd rfl rfl (by decide) rfl rfl (pa_cons (pe_call (ok_number_of T) (hr.mono (by decide)) (by rfl) T.g_number_of T.f_number_of.kp T.y_number_of .nil pass0 (pa_cons (pe_ix ix_list (pv 1) (pe_int) (fun _ _ => rfl)) pa_nil)) (pa_cons (pe_call (ok_number_of T) (hr.mono (by decide)) (by rfl) T.g_number_of T.f_number_of.kp T.y_number_of .nil pass0 (pa_cons (pe_ix ix_list (pv 1) (pe_int) (fun _ _ => rfl)) pa_nil)) pa_nil)) (by rfl))
    (pss_cons (ps_expr (pe_call (ok_need_line T) (hr.mono (by decide)) (by rfl) T.g_need_line T.f_need_line.kp T.y_need_line .nil pass0 (pa_cons (pe_call (ok_is_among T) (hr.mono (by decide)) (by rfl) T.g_is_among T.f_is_among.kp T.y_is_among .nil pass0 (pa_cons (pv 2) (pa_cons (pe_op op_add (pe_meth0 (pv 0) T.c_Web T.m_Web_given (ok_Web_given T) (hr.mono (by decide)) T.y_Web_given .nil pass0) (pe_int)) (pa_cons (pe_glob rfl T.i_MOST.choose_spec ⟨_, rfl⟩) pa_nil)))) pa_nil)))
    (pss_one (ps_expr (pe_meth (pv 0) T.c_Web T.m_Web_put_numbered (ok_Web_put_numbered T) (hr.mono (by decide)) T.y_Web_put_numbered .nil pass0 (pa_cons (pv 2) (pa_cons (pe_ix ix_list (pv 1) (pe_int) (fun _ _ => rfl)) (pa_cons (pe_ix ix_list (pv 1) (pe_int) (fun _ _ => rfl)) (pa_cons (pv 3) (pa_cons (pe_cmpR op_eq (pe_ix ix_list (pv 1) (pe_int) (fun _ _ => rfl)) (pe_str) (nomark _)) pa_nil))))))))))
theorem ok_put_tie_line (T : Tx w K mg) : FnOk P w K mg base CX0 5 (He.fAd K ("put_tie_line", none)) (fdOf K ("put_tie_line", none)) ["web", "words"] (sp_put_tie_line K) :=
  T.f_put_tie_line.ok sc_put_tie_line len_put_tie_line fun cdv A outer s H vs Q E hr h => ⟨t_put_tie_line K, (w_put_tie_line T hr).nox, pure_put_tie_line T vs H Q E h⟩
theorem w_put_line (T : Tx w K mg) {cdv : Value} {A : Around} {outer : List Env} {s : Shared} {H : Hp} {E : XK} {f : Addr} (hr : Room 5 (A.deeper (envOfC "put_line" (defScope s_put_line) s.heap.objs.size f cdv))) : PSs (cxOf CX0 P w K mg base n_put_line "put_line" (defScope s_put_line) f cdv A outer s H E).nox (defBody s_put_line) (t_put_line K) :=
  pss_cons (ps_set (i := 2) sc_put_line.nd rfl (by first | exact Or.inl rfl | exact Or.inr rfl) (pe_call (ok_words_of T) (hr.mono (by decide)) (by rfl) T.g_words_of T.f_words_of.kp T.y_words_of .nil pass0 (pa_cons (pv 1) pa_nil)))
    (pss_cons (ps_expr (pe_call (ok_need_line T) (hr.mono (by decide)) (by rfl) T.g_need_line T.f_need_line.kp T.y_need_line .nil pass0 (pa_cons (pe_cmpR op_notN (pv 2) (pe_non) (nomark _)) pa_nil)))
    (pss_cons (ps_if (pt_cmpR op_in_seq (pe_ix ix_list (pv 2) (pe_int) (fun _ _ => rfl)) (pe_tup (pa_cons (pe_str) (pa_cons (pe_str) pa_nil))) (by rfl)) (pss_cons (ps_expr (pe_call (ok_put_tie_line T) (hr.mono (by decide)) (by rfl) T.g_put_tie_line T.f_put_tie_line.kp T.y_put_tie_line .nil pass0 (pa_cons (pv 0) (pa_cons (pv 2) pa_nil))))
    (pss_one (ps_ret (pe_bl)))) pss_nil)
    (pss_cons (ps_expr (pe_call (ok_need_line T) (hr.mono (by decide)) (by rfl) T.g_need_line T.f_need_line.kp T.y_need_line .nil pass0 (pa_cons (pe_cmpR op_eq (pe_callB call_len_seq (by rfl) T.b_len (by decide +kernel) (pa_cons (pv 2) pa_nil)) (pe_int) (nomark _)) pa_nil)))
    (pss_cons (ps_if (pt_cmpR op_eq (pe_ix ix_list (pv 2) (pe_int) (fun _ _ => rfl)) (pe_str) (nomark _)) (pss_cons (ps_expr (pe_call (ok_need_line T) (hr.mono (by decide)) (by rfl) T.g_need_line T.f_need_line.kp T.y_need_line .nil pass0 (pa_cons (pe_cmpR (op_eqD hr.units) (pe_meth0 (pv 0) T.c_Web T.m_Web_ties (ok_Web_ties T) (hr.mono (by decide)) T.y_Web_ties .nil pass0) (pe_lst pa_nil) (nomark _)) pa_nil)))
    (pss_cons (ps_expr (pe_meth (pv 0) T.c_Web T.m_Web_put_point (ok_Web_put_point T) (hr.mono (by decide)) T.y_Web_put_point .nil pass0 (pa_cons (pe_ix ix_list (pv 2) (pe_int) (fun _ _ => rfl)) pa_nil)))
    (pss_one (ps_ret (pe_bl))))) pss_nil)
    (pss_cons (ps_expr (pe_call (ok_need_line T) (hr.mono (by decide)) (by rfl) T.g_need_line T.f_need_line.kp T.y_need_line .nil pass0 (pa_cons (pe_and (pe_cmpR op_eq (pe_ix ix_list (pv 2) (pe_int) (fun _ _ => rfl)) (pe_str) (nomark _)) (pe_one (pe_call (ok_is_among T) (hr.mono (by decide)) (by rfl) T.g_is_among T.f_is_among.kp T.y_is_among .nil pass0 (pa_cons (pe_call (ok_number_of T) (hr.mono (by decide)) (by rfl) T.g_number_of T.f_number_of.kp T.y_number_of .nil pass0 (pa_cons (pe_ix ix_list (pv 2) (pe_int) (fun _ _ => rfl)) pa_nil)) (pa_cons (pe_meth0 (pv 0) T.c_Web T.m_Web_given (ok_Web_given T) (hr.mono (by decide)) T.y_Web_given .nil pass0) (pa_cons (pe_glob rfl T.i_MOST.choose_spec ⟨_, rfl⟩) pa_nil)))))) pa_nil)))
    (pss_cons (ps_expr (pe_meth (pv 0) T.c_Web T.m_Web_give (ok_Web_give T) (hr.mono (by decide)) T.y_Web_give .nil pass0 (pa_cons (pe_call (ok_number_of T) (hr.mono (by decide)) (by rfl) T.g_number_of T.f_number_of.kp T.y_number_of .nil pass0 (pa_cons (pe_ix ix_list (pv 2) (pe_int) (fun _ _ => rfl)) pa_nil)) pa_nil)))
    (pss_one (ps_ret (pe_bl)))))))))
theorem ok_put_line (T : Tx w K mg) : FnOk P w K mg base CX0 6 (He.fAd K ("put_line", none)) (fdOf K ("put_line", none)) ["web", "line"] (sp_put_line K) :=
  T.f_put_line.ok sc_put_line len_put_line fun cdv A outer s H vs Q E hr h => ⟨t_put_line K, (w_put_line T hr).nox, pure_put_line T vs H Q E h⟩
theorem w_web_of (T : Tx w K mg) {cdv : Value} {A : Around} {outer : List Env} {s : Shared} {H : Hp} {E : XK} {f : Addr} (hr : Room 6 (A.deeper (envOfC "web_of" (defScope s_web_of) s.heap.objs.size f cdv))) : PSs (cxOf CX0 P w K mg base n_web_of "web_of" (defScope s_web_of) f cdv A outer s H E).nox (defBody s_web_of) (t_web_of K) :=
  pss_cons (ps_if (pt_not (pt_val (pe_callB call_isi (by rfl) T.b_isinstance (by decide +kernel) (pa_cons (pv 0) (pa_cons (pe_bltn (v := .ty "list") (u := .type "list") (by rfl) T.b_list (by decide +kernel) rfl) pa_nil))))) (pss_one (ps_never)) pss_nil)
    (pss_cons (ps_set (i := 1) sc_web_of.nd rfl (by first | exact Or.inl rfl | exact Or.inr rfl) (pe_make0 T.k_Web (ok_Web_init T) (hr.mono (by decide)) (by rfl) T.g_Web T.y_Web_init .nil pass0))
    (pss_cons (ps_set (i := 2) sc_web_of.nd rfl (by first | exact Or.inl rfl | exact Or.inr rfl) (pe_bl))
    (pss_cons (ps_for PassesOwn.never (by rfl) (pi_enum (by rfl) T.b_enumerate (pa_cons (pv 0) pa_nil)) (pg_tup (by rfl) (pgs_cons (pg_name (i := 3) sc_web_of.nd rfl (by first | exact Or.inl rfl | exact Or.inr rfl)) (pgs_cons (pg_name (i := 4) sc_web_of.nd rfl (by first | exact Or.inl rfl | exact Or.inr rfl)) (pgs_nil)))) (pss_cons (ps_set (i := 5) sc_web_of.nd rfl (by first | exact Or.inl rfl | exact Or.inr rfl) (pe_not (pv 2)))
    (pss_cons (ps_try_thru0 (pss_one (ps_set (i := 2) sc_web_of.nd rfl (by first | exact Or.inl rfl | exact Or.inr rfl) (pe_and (pv 5) (pe_one (pe_call (ok_put_line T) (hr.mono (by decide)) (by rfl) T.g_put_line T.f_put_line.kp T.y_put_line .nil pass0 (pa_cons (pv 1) (pa_cons (pv 4) pa_nil))))))))
    (pss_one (ps_if (pt_not (pt_val (pv 5))) (pss_one (ps_never)) pss_nil)))))
    (pss_cons (ps_if (pt_not (pt_val (pv 2))) (pss_one (ps_never)) pss_nil)
    (pss_one (ps_ret (pv 1)))))))
theorem ok_web_of (T : Tx w K mg) : FnOk P w K mg base CX0 7 (He.fAd K ("web_of", none)) (fdOf K ("web_of", none)) ["lines"] (sp_web_of K) :=
  T.f_web_of.ok sc_web_of len_web_of fun cdv A outer s H vs Q E hr h => ⟨t_web_of K, (w_web_of T hr).nox, pure_web_of T vs H Q E h⟩
theorem w_law_draw (T : Tx w K mg) {cdv : Value} {A : Around} {outer : List Env} {s : Shared} {H : Hp} {E : XK} {f : Addr} (hr : Room 0 (A.deeper (envOfC "_law_draw" (defScope s_law_draw) s.heap.objs.size f cdv))) : PSs (cxOf CX0 P w K mg base n_law_draw "_law_draw" (defScope s_law_draw) f cdv A outer s H E).nox (defBody s_law_draw) (t_law_draw K) :=
  pss_cons (ps_set (i := 3) sc_law_draw.nd rfl (by first | exact Or.inl rfl | exact Or.inr rfl) (pv 0))
    (pss_cons (ps_for PassesOwn.never (by rfl) (pi_range1 (by rfl) T.b_range (pa_cons (pe_op op_mul (pv 2) (pe_callTy call_int1 (by rfl) T.b_int (by decide +kernel) (pa_cons (pe_cmpR op_ge (pv 0) (pe_op op_pow (pe_int) (pe_int)) (nomark _)) pa_nil))) pa_nil)) (pg_name (i := 4) sc_law_draw.nd rfl (by first | exact Or.inl rfl | exact Or.inr rfl)) (pss_one (ps_set (i := 3) sc_law_draw.nd rfl (by first | exact Or.inl rfl | exact Or.inr rfl) (pe_op op_fdivW (pv 3) (pe_int)))))
    (pss_cons (ps_if (PW.pt (pw_and (pt_cmpR op_ge (pv 0) (pe_op op_pow (pe_int) (pe_int)) (nomark _)) (pw_and1 (pt_cmpR op_gt (pv 3) (pe_int) (nomark _))))) (pss_one (ps_ret (pe_op op_mod (pv 3) (pe_int)))) pss_nil)
    (pss_cons (ps_set (i := 5) sc_law_draw.nd rfl (by first | exact Or.inl rfl | exact Or.inr rfl) (pe_op op_add (pe_op op_mul (pe_op op_mul (pe_op op_add (pv 1) (pe_int)) (pe_op op_add (pv 1) (pe_int))) (pe_int)) (pe_op op_mul (pe_op op_mul (pe_op op_add (pv 2) (pe_int)) (pe_op op_add (pv 2) (pe_int))) (pe_int))))
    (pss_one (ps_ret (pe_op op_fdivW (pe_op op_mod (pe_op op_mul (pe_op op_mod (pe_op op_add (pe_op op_mul (pe_op op_mod (pv 0) (pe_int)) (pe_int)) (pv 5)) (pe_int)) (pe_int)) (pe_int)) (pe_int)))))))
theorem ok_law_draw (T : Tx w K mg) : FnOk P w K mg base CX0 1 (He.fAd K ("_law_draw", none)) (fdOf K ("_law_draw", none)) ["_law_cell", "_law_k", "_law_j"] (sp_law_draw K) :=
  T.f_law_draw.ok sc_law_draw len_law_draw fun cdv A outer s H vs Q E hr h => ⟨t_law_draw K, (w_law_draw T hr).nox, pure_law_draw T vs H Q E h⟩
theorem w_law_load (T : Tx w K mg) {cdv : Value} {A : Around} {outer : List Env} {s : Shared} {H : Hp} {E : XK} {f : Addr} (hr : Room 1 (A.deeper (envOfC "_law_load" (defScope s_law_load) s.heap.objs.size f cdv))) : PSs (cxOf CX0 P w K mg base n_law_load "_law_load" (defScope s_law_load) f cdv A outer s H E).nox (defBody s_law_load) (t_law_load K) :=
  pss_cons (ps_set (i := 3) sc_law_load.nd rfl (by first | exact Or.inl rfl | exact Or.inr rfl) (pe_call (ok_law_draw T) (hr.mono (by decide)) (by rfl) T.g__law_draw T.f_law_draw.kp T.y_law_draw .nil pass0 (pa_cons (pv 0) (pa_cons (pv 1) (pa_cons (pv 2) pa_nil)))))
    (pss_cons (ps_set (i := 4) sc_law_load.nd rfl (by first | exact Or.inl rfl | exact Or.inr rfl) (pe_lst (pa_cons (pe_op op_mod (pe_op op_fdivW (pv 3) (pe_int)) (pe_int)) (pa_cons (pe_op op_mod (pe_op op_fdivW (pv 3) (pe_int)) (pe_int)) (pa_cons (pe_op op_mod (pe_op op_add (pv 0) (pv 3)) (pe_op op_add (pe_op op_pow (pe_int) (pe_int)) (pe_int))) (pa_cons (pe_op op_sub (pe_op op_pow (pe_int) (pe_int)) (pe_op op_mod (pe_op op_fdivW (pv 3) (pe_int)) (pe_int))) pa_nil))))))
    (pss_one (ps_ret (pe_ix ix_list (pv 4) (pe_op op_mod (pv 3) (pe_int)) (fun _ _ => rfl)))))
theorem ok_law_load (T : Tx w K mg) : FnOk P w K mg base CX0 2 (He.fAd K ("_law_load", none)) (fdOf K ("_law_load", none)) ["_law_cell", "_law_k", "_law_j"] (sp_law_load K) :=
  T.f_law_load.ok sc_law_load len_law_load fun cdv A outer s H vs Q E hr h => ⟨t_law_load K, (w_law_load T hr).nox, pure_law_load T vs H Q E h⟩
theorem w_law_pool (T : Tx w K mg) {cdv : Value} {A : Around} {outer : List Env} {s : Shared} {H : Hp} {E : XK} {f : Addr} (hr : Room 1 (A.deeper (envOfC "_law_pool" (defScope s_law_pool) s.heap.objs.size f cdv))) : PSs (cxOf CX0 P w K mg base n_law_pool "_law_pool" (defScope s_law_pool) f cdv A outer s H E).nox (defBody s_law_pool) (t_law_pool K) :=
  pss_cons (ps_set (i := 1) sc_law_pool.nd rfl (by first | exact Or.inl rfl | exact Or.inr rfl) (pe_str))
    (pss_cons (ps_set (i := 2) sc_law_pool.nd rfl (by first | exact Or.inl rfl | exact Or.inr rfl) (pe_call (ok_law_draw T) (hr.mono (by decide)) (by rfl) T.g__law_draw T.f_law_draw.kp T.y_law_draw .nil pass0 (pa_cons (pv 0) (pa_cons (pe_int) (pa_cons (pe_int) pa_nil)))))
    (pss_cons (ps_set (i := 3) sc_law_pool.nd rfl (by first | exact Or.inl rfl | exact Or.inr rfl) (pe_join (pe_str) (pe_lc (own := [("_law_j", 8)]) (by rfl) sc_law_pool.nd (pi_range1 (by rfl) T.b_range (pa_cons (pe_int) pa_nil)) (blkOk_by (own := [("_law_j", 8)]) (N := n_law_pool) (sc := defScope s_law_pool) (by decide +kernel)) (fun _ _ _ _ _ => pg_name (i := 8) sc_law_pool.nd rfl (by first | exact Or.inl rfl | exact Or.inr rfl)) (fun _ _ _ _ _ => pts_nil) (fun _ _ _ _ _ => pe_ix ix_str (pv 1) (pe_op op_mod (pe_op op_add (pe_op op_fdivW (pv 2) (pe_int)) (pe_op op_mul (pe_op op_add (pe_int) (pe_op op_mod (pv 2) (pe_int))) (pv 8))) (pe_int)) (fun _ _ => rfl)))))
    (pss_cons (ps_set (i := 4) sc_law_pool.nd rfl (by first | exact Or.inl rfl | exact Or.inr rfl) (pe_slice sl_str (pv 3) po_none (po_some (pe_op op_mod (pv 2) (pe_int)))))
    (pss_cons (ps_set (i := 5) sc_law_pool.nd rfl (by first | exact Or.inl rfl | exact Or.inr rfl) (pe_op op_mod (pe_op op_fdivW (pv 2) (pe_int)) (pe_op op_add (pe_callB call_len_str (by rfl) T.b_len (by decide +kernel) (pa_cons (pv 4) pa_nil)) (pe_int))))
    (pss_cons (ps_setLc (i := 6) (own := [("_law_j", 8)]) (by rfl) sc_law_pool.nd rfl rfl (sw_true rfl rfl rfl (by decide +kernel)) (pi_range1 (by rfl) T.b_range (pa_cons (pe_int) pa_nil)) (blkOk_by (own := [("_law_j", 8)]) (N := n_law_pool) (sc := defScope s_law_pool) (by decide +kernel)) (fun _ _ _ _ _ => pg_name (i := 8) sc_law_pool.nd rfl (by first | exact Or.inl rfl | exact Or.inr rfl)) (fun _ _ _ _ _ => pts_nil) (fun _ _ _ _ _ => pe_ix ix_str (pv 1) (pe_op op_mod (pe_op op_add (pe_op op_fdivW (pv 2) (pe_int)) (pe_op op_mul (pe_int) (pv 8))) (pe_int)) (fun _ _ => rfl)))
    (pss_cons (ps_set (i := 7) sc_law_pool.nd rfl (by first | exact Or.inl rfl | exact Or.inr rfl) (pe_lc (own := [("_law_sign", 9)]) (by rfl) sc_law_pool.nd (pi_list (pv 6)) (blkOk_by (own := [("_law_sign", 9)]) (N := n_law_pool) (sc := defScope s_law_pool) (by decide +kernel)) (fun _ _ _ _ _ => pg_name (i := 9) sc_law_pool.nd rfl (by first | exact Or.inl rfl | exact Or.inr rfl)) (fun _ _ _ _ _ => pts_nil) (fun _ _ _ _ _ => pe_op op_add_str (pe_op op_add_str (pe_slice sl_str (pv 4) po_none (po_some (pv 5))) (pv 9)) (pe_slice sl_str (pv 4) (po_some (pv 5)) po_none))))
    (pss_cons (ps_if (pt_cmpR op_eq (pe_op op_mod (pe_op op_fdivW (pv 2) (pe_int)) (pe_int)) (pe_int) (nomark _)) (pss_one (ps_set (i := 7) sc_law_pool.nd rfl (by first | exact Or.inl rfl | exact Or.inr rfl) (pe_op op_cat (pe_lc (own := [("_law_j", 8)]) (by rfl) sc_law_pool.nd (pi_range1 (by rfl) T.b_range (pa_cons (pe_int) pa_nil)) (blkOk_by (own := [("_law_j", 8)]) (N := n_law_pool) (sc := defScope s_law_pool) (by decide +kernel)) (fun _ _ _ _ _ => pg_name (i := 8) sc_law_pool.nd rfl (by first | exact Or.inl rfl | exact Or.inr rfl)) (fun _ _ _ _ _ => pts_nil) (fun _ _ _ _ _ => pe_slice sl_str (pv 3) po_none (po_some (pe_op op_add (pv 8) (pe_int))))) (pv 7)))) pss_nil)
    (pss_one (ps_ret (pe_slice sl_list (pe_lc (own := [("_law_j", 8), ("_law_name", 10)]) (by rfl) sc_law_pool.nd (pi_enum (by rfl) T.b_enumerate (pa_cons (pv 7) pa_nil)) (blkOk_by (own := [("_law_j", 8), ("_law_name", 10)]) (N := n_law_pool) (sc := defScope s_law_pool) (by decide +kernel)) (fun _ _ _ _ _ => pg_tup (by rfl) (pgs_cons (pg_name (i := 8) sc_law_pool.nd rfl (by first | exact Or.inl rfl | exact Or.inr rfl)) (pgs_cons (pg_name (i := 10) sc_law_pool.nd rfl (by first | exact Or.inl rfl | exact Or.inr rfl)) (pgs_nil)))) (fun _ _ _ _ _ => pts_one (pt_cmpR op_notIn_seq (pv 10) (pe_slice sl_list (pv 7) po_none (po_some (pv 8))) (by rfl))) (fun _ _ _ _ _ => pv 10)) po_none (po_some (pe_int))))))))))))
theorem ok_law_pool (T : Tx w K mg) : FnOk P w K mg base CX0 2 (He.fAd K ("_law_pool", none)) (fdOf K ("_law_pool", none)) ["_law_cell"] (sp_law_pool K) :=
  T.f_law_pool.ok sc_law_pool len_law_pool fun cdv A outer s H vs Q E hr h => ⟨t_law_pool K, (w_law_pool T hr).nox, pure_law_pool T vs H Q E h⟩
theorem w_law_whole (T : Tx w K mg) {cdv : Value} {A : Around} {outer : List Env} {s : Shared} {H : Hp} {E : XK} {f : Addr} (hr : Room 0 (A.deeper (envOfC "_law_whole" (defScope s_law_whole) s.heap.objs.size f cdv))) : PSs (cxOf CX0 P w K mg base n_law_whole "_law_whole" (defScope s_law_whole) f cdv A outer s H E).nox (defBody s_law_whole) (t_law_whole K) :=
  pss_one (ps_ret (pe_and (pe_callB call_isi (by rfl) T.b_isinstance (by decide +kernel) (pa_cons (pv 0) (pa_cons (pe_bltn (v := .ty "int") (u := .type "int") (by rfl) T.b_int (by decide +kernel) rfl) pa_nil))) (pe_and (pe_not (pe_callB call_isi (by rfl) T.b_isinstance (by decide +kernel) (pa_cons (pv 0) (pa_cons (pe_bltn (v := .ty "bool") (u := .type "bool") (by rfl) T.b_bool (by decide +kernel) rfl) pa_nil)))) (pe_one (pe_cmpR op_eq (pv 0) (pv 1) (nomark _))))))
theorem ok_law_whole (T : Tx w K mg) : FnOk P w K mg base CX0 1 (He.fAd K ("_law_whole", none)) (fdOf K ("_law_whole", none)) ["_law_thing", "_law_due"] (sp_law_whole K) :=
  T.f_law_whole.ok sc_law_whole len_law_whole fun cdv A outer s H vs Q E hr h => ⟨t_law_whole K, (w_law_whole T hr).nox, pure_law_whole T vs H Q E h⟩
theorem w_law_put_tie (T : Tx w K mg) {cdv : Value} {A : Around} {outer : List Env} {s : Shared} {H : Hp} {E : XK} {f : Addr} (hr : Room 5 (A.deeper (envOfC "_law_put_tie" (defScope s_law_put_tie) s.heap.objs.size f cdv))) : PSs (cxOf CX0 P w K mg base n_law_put_tie "_law_put_tie" (defScope s_law_put_tie) f cdv A outer s H E).nox (defBody s_law_put_tie) (t_law_put_tie K) :=
  pss_cons (ps_set (i := 4) sc_law_put_tie.nd rfl (by first | exact Or.inl rfl | exact Or.inr rfl) (pe_dget (hu_of hr) (pv 1) (pe_str) (fun _ _ => rfl)))
    (pss_cons (ps_set (i := 5) sc_law_put_tie.nd rfl (by first | exact Or.inl rfl | exact Or.inr rfl) (pe_call (ok_law_draw T) (hr.mono (by decide)) (by rfl) T.g__law_draw T.f_law_draw.kp T.y_law_draw .nil pass0 (pa_cons (pv 2) (pa_cons (pv 3) (pa_cons (pe_int) pa_nil)))))
    (pss_cons (ps_set (i := 6) sc_law_put_tie.nd rfl (by first | exact Or.inl rfl | exact Or.inr rfl) (pe_ix ix_list (pv 4) (pe_op op_mod (pv 5) (pe_callB call_len_seq (by rfl) T.b_len (by decide +kernel) (pa_cons (pv 4) pa_nil))) (fun _ _ => rfl)))
    (pss_cons (ps_set (i := 7) sc_law_put_tie.nd rfl (by first | exact Or.inl rfl | exact Or.inr rfl) (pe_ix ix_list (pv 4) (pe_op op_mod (pe_op op_add (pe_op op_add (pv 5) (pe_int)) (pe_op op_mod (pe_op op_fdivW (pv 5) (pe_int)) (pe_op op_sub (pe_callB call_len_seq (by rfl) T.b_len (by decide +kernel) (pa_cons (pv 4) pa_nil)) (pe_int)))) (pe_callB call_len_seq (by rfl) T.b_len (by decide +kernel) (pa_cons (pv 4) pa_nil))) (fun _ _ => rfl)))
    (pss_cons (ps_set (i := 8) sc_law_put_tie.nd rfl (by first | exact Or.inl rfl | exact Or.inr rfl) (pe_call (ok_law_load T) (hr.mono (by decide)) (by rfl) T.g__law_load T.f_law_load.kp T.y_law_load .nil pass0 (pa_cons (pv 2) (pa_cons (pv 3) (pa_cons (pe_int) pa_nil)))))
    (pss_cons (ps_set (i := 9) sc_law_put_tie.nd rfl (by first | exact Or.inl rfl | exact Or.inr rfl) (pe_cmpR op_eq (pe_op op_mod (pe_op op_fdivW (pv 5) (pe_int)) (pe_int)) (pe_int) (nomark _)))
    (pss_cons (ps_if (pt_cmpR op_eq (pe_op op_mod (pe_op op_fdivW (pv 5) (pe_int)) (pe_int)) (pe_int) (nomark _)) (pss_cons (ps_asg (pe_tup (pa_cons (pe_int) (pa_cons (pe_bl) pa_nil))) (pg_tup (by rfl) (pgs_cons (pg_name (i := 8) sc_law_put_tie.nd rfl (by first | exact Or.inl rfl | exact Or.inr rfl)) (pgs_cons (pg_name (i := 9) sc_law_put_tie.nd rfl (by first | exact Or.inl rfl | exact Or.inr rfl)) (pgs_nil)))))
    (pss_one (ps_set (i := 10) sc_law_put_tie.nd rfl (by first | exact Or.inl rfl | exact Or.inr rfl) (pe_meth (pv 0) T.c_Web T.m_Web_put_tie (ok_Web_put_tie T) (hr.mono (by decide)) T.yd0_Web_put_tie.choose_spec.2 T.yd0_Web_put_tie.choose_spec.1 pass0 (pa_cons (pv 6) (pa_cons (pv 7) pa_nil)))))) (pss_one (ps_if (pt_cmpR op_eq (pe_op op_mod (pe_op op_fdivW (pv 5) (pe_int)) (pe_int)) (pe_int) (nomark _)) (pss_cons (ps_set (i := 9) sc_law_put_tie.nd rfl (by first | exact Or.inl rfl | exact Or.inr rfl) (pe_bl))
    (pss_one (ps_set (i := 10) sc_law_put_tie.nd rfl (by first | exact Or.inl rfl | exact Or.inr rfl) (pe_meth (pv 0) T.c_Web T.m_Web_put_tie (ok_Web_put_tie T) (hr.mono (by decide)) T.yd1_Web_put_tie.choose_spec.2 T.yd1_Web_put_tie.choose_spec.1 pass0 (pa_cons (pv 6) (pa_cons (pv 7) (pa_cons (pv 8) pa_nil))))))) (pss_one (ps_set (i := 10) sc_law_put_tie.nd rfl (by first | exact Or.inl rfl | exact Or.inr rfl) (pe_meth (pv 0) T.c_Web T.m_Web_put_tie (ok_Web_put_tie T) (hr.mono (by decide)) T.yd2_Web_put_tie .nil pass0 (pa_cons (pv 6) (pa_cons (pv 7) (pa_cons (pv 8) (pa_cons (pv 9) pa_nil))))))))))
    (pss_cons (ps_dput (hu_of hr) (pv 1) (pe_str) (pe_op op_add (pe_dget (hu_of hr) (pv 1) (pe_str) (fun _ _ => rfl)) (pe_int)) rfl)
    (pss_cons (ps_dput (hu_of hr) (pe_dget (hu_of hr) (pv 1) (pe_str) (fun _ _ => rfl)) (pe_dget (hu_of hr) (pv 1) (pe_str) (fun _ _ => rfl)) (pe_tup (pa_cons (pv 6) (pa_cons (pv 7) (pa_cons (pv 8) (pa_cons (pv 9) pa_nil))))) rfl)
    (pss_one (ps_ret (pe_call (ok_law_whole T) (hr.mono (by decide)) (by rfl) T.g__law_whole T.f_law_whole.kp T.y_law_whole .nil pass0 (pa_cons (pv 10) (pa_cons (pe_dget (hu_of hr) (pv 1) (pe_str) (fun _ _ => rfl)) pa_nil)))))))))))))
theorem ok_law_put_tie (T : Tx w K mg) : FnOk P w K mg base CX0 6 (He.fAd K ("_law_put_tie", none)) (fdOf K ("_law_put_tie", none)) ["_law_web", "_law_model", "_law_cell", "_law_k"] (sp_law_put_tie K) :=
  T.f_law_put_tie.ok sc_law_put_tie len_law_put_tie fun cdv A outer s H vs Q E hr h => ⟨t_law_put_tie K, (w_law_put_tie T hr).nox, pure_law_put_tie T vs H Q E h⟩
theorem w_law_tie_changed (T : Tx w K mg) {cdv : Value} {A : Around} {outer : List Env} {s : Shared} {H : Hp} {E : XK} {f : Addr} (hr : Room 4 (A.deeper (envOfC "_law_tie_changed" (defScope s_law_tie_changed) s.heap.objs.size f cdv))) : PSs (cxOf CX0 P w K mg base n_law_tie_changed "_law_tie_changed" (defScope s_law_tie_changed) f cdv A outer s H E).nox (defBody s_law_tie_changed) (t_law_tie_changed K) :=
  pss_cons (ps_set (i := 5) sc_law_tie_changed.nd rfl (by first | exact Or.inl rfl | exact Or.inr rfl) (pe_call (ok_law_draw T) (hr.mono (by decide)) (by rfl) T.g__law_draw T.f_law_draw.kp T.y_law_draw .nil pass0 (pa_cons (pv 2) (pa_cons (pv 3) (pa_cons (pe_int) pa_nil)))))
    (pss_cons (ps_set (i := 6) sc_law_tie_changed.nd rfl (by first | exact Or.inl rfl | exact Or.inr rfl) (pe_ix ix_list (pe_callB (call_sortedDI (by rfl)) (by rfl) T.b_sorted (by decide +kernel) (pa_cons (pe_dget (hu_of hr) (pv 1) (pe_str) (fun _ _ => rfl)) pa_nil)) (pe_op op_mod (pv 5) (pe_callB call_lenD (by rfl) T.b_len (by decide +kernel) (pa_cons (pe_dget (hu_of hr) (pv 1) (pe_str) (fun _ _ => rfl)) pa_nil))) (fun _ _ => rfl)))
    (pss_cons (ps_if (pt_val (pv 4)) (pss_cons (ps_expr (pe_dpop1 (pe_dget (hu_of hr) (pv 1) (pe_str) (fun _ _ => rfl)) (pv 6) ⟨by rfl, by rfl, by rfl, by rfl⟩))
    (pss_one (ps_ret (pe_cmpR op_isN (pe_meth (pv 0) T.c_Web T.m_Web_drop_tie (ok_Web_drop_tie T) (hr.mono (by decide)) T.y_Web_drop_tie .nil pass0 (pa_cons (pv 6) pa_nil)) (pe_non) (nomark _))))) pss_nil)
    (pss_cons (ps_asg (pe_dget (hu_of hr) (pe_dget (hu_of hr) (pv 1) (pe_str) (fun _ _ => rfl)) (pv 6) (fun _ _ => rfl)) (pg_tup (by rfl) (pgs_cons (pg_name (i := 7) sc_law_tie_changed.nd rfl (by first | exact Or.inl rfl | exact Or.inr rfl)) (pgs_cons (pg_name (i := 8) sc_law_tie_changed.nd rfl (by first | exact Or.inl rfl | exact Or.inr rfl)) (pgs_cons (pg_name (i := 9) sc_law_tie_changed.nd rfl (by first | exact Or.inl rfl | exact Or.inr rfl)) (pgs_cons (pg_name (i := 10) sc_law_tie_changed.nd rfl (by first | exact Or.inl rfl | exact Or.inr rfl)) (pgs_nil)))))))
    (pss_cons (ps_set (i := 9) sc_law_tie_changed.nd rfl (by first | exact Or.inl rfl | exact Or.inr rfl) (pe_call (ok_law_load T) (hr.mono (by decide)) (by rfl) T.g__law_load T.f_law_load.kp T.y_law_load .nil pass0 (pa_cons (pv 2) (pa_cons (pv 3) (pa_cons (pe_int) pa_nil)))))
    (pss_cons (ps_dput (hu_of hr) (pe_dget (hu_of hr) (pv 1) (pe_str) (fun _ _ => rfl)) (pv 6) (pe_tup (pa_cons (pv 7) (pa_cons (pv 8) (pa_cons (pv 9) (pa_cons (pv 10) pa_nil))))) rfl)
    (pss_one (ps_ret (pe_cmpR op_isN (pe_meth (pv 0) T.c_Web T.m_Web_set_load (ok_Web_set_load T) (hr.mono (by decide)) T.y_Web_set_load .nil pass0 (pa_cons (pv 6) (pa_cons (pv 9) pa_nil))) (pe_non) (nomark _)))))))))
theorem ok_law_tie_changed (T : Tx w K mg) : FnOk P w K mg base CX0 5 (He.fAd K ("_law_tie_changed", none)) (fdOf K ("_law_tie_changed", none)) ["_law_web", "_law_model", "_law_cell", "_law_k", "_law_is_gone"] (sp_law_tie_changed K) :=
  T.f_law_tie_changed.ok sc_law_tie_changed len_law_tie_changed fun cdv A outer s H vs Q E hr h => ⟨t_law_tie_changed K, (w_law_tie_changed T hr).nox, pure_law_tie_changed T vs H Q E h⟩
theorem w_law_moved (T : Tx w K mg) {cdv : Value} {A : Around} {outer : List Env} {s : Shared} {H : Hp} {E : XK} {f : Addr} (hr : Room 0 (A.deeper (envOfC "_law_moved" (defScope s_law_moved) s.heap.objs.size f cdv))) : PSs (cxOf CX0 P w K mg base n_law_moved "_law_moved" (defScope s_law_moved) f cdv A outer s H E).nox (defBody s_law_moved) (t_law_moved K) :=
  pss_one (ps_for PassesOwn.never (by rfl) (pi_list (pv 3)) (pg_name (i := 4) sc_law_moved.nd rfl (by first | exact Or.inl rfl | exact Or.inr rfl)) (pss_cons (ps_asg (pe_dget (hu_of hr) (pe_dget (hu_of hr) (pv 0) (pe_str) (fun _ _ => rfl)) (pv 4) (fun _ _ => rfl)) (pg_tup (by rfl) (pgs_cons (pg_name (i := 5) sc_law_moved.nd rfl (by first | exact Or.inl rfl | exact Or.inr rfl)) (pgs_cons (pg_name (i := 6) sc_law_moved.nd rfl (by first | exact Or.inl rfl | exact Or.inr rfl)) (pgs_cons (pg_name (i := 7) sc_law_moved.nd rfl (by first | exact Or.inl rfl | exact Or.inr rfl)) (pgs_cons (pg_name (i := 8) sc_law_moved.nd rfl (by first | exact Or.inl rfl | exact Or.inr rfl)) (pgs_nil)))))))
    (pss_cons (ps_set (i := 5) sc_law_moved.nd rfl (by first | exact Or.inl rfl | exact Or.inr rfl) (pe_ifExp (pt_cmpR op_eq (pv 5) (pv 1) (nomark _)) (pv 2) (pv 5)))
    (pss_one (ps_dput (hu_of hr) (pe_dget (hu_of hr) (pv 0) (pe_str) (fun _ _ => rfl)) (pv 4) (pe_tup (pa_cons (pv 5) (pa_cons (pe_ifExp (pt_cmpR op_eq (pv 6) (pv 1) (nomark _)) (pv 2) (pv 6)) (pa_cons (pv 7) (pa_cons (pv 8) pa_nil))))) rfl)))))
theorem ok_law_moved (T : Tx w K mg) : FnOk P w K mg base CX0 1 (He.fAd K ("_law_moved", none)) (fdOf K ("_law_moved", none)) ["_law_model", "_law_name", "_law_other", "_law_numbers"] (sp_law_moved K) :=
  T.f_law_moved.ok sc_law_moved len_law_moved fun cdv A outer s H vs Q E hr h => ⟨t_law_moved K, (w_law_moved T hr).nox, pure_law_moved T vs H Q E h⟩
theorem w_law_at (T : Tx w K mg) {cdv : Value} {A : Around} {outer : List Env} {s : Shared} {H : Hp} {E : XK} {f : Addr} (hr : Room 0 (A.deeper (envOfC "_law_at" (defScope s_law_at) s.heap.objs.size f cdv))) : PSs (cxOf CX0 P w K mg base n_law_at "_law_at" (defScope s_law_at) f cdv A outer s H E).nox (defBody s_law_at) (t_law_at K) :=
  pss_one (ps_ret (pe_lc (own := [("_law_number", 2)]) (by rfl) sc_law_at.nd (pi_list (pe_callB (call_sortedDI (by rfl)) (by rfl) T.b_sorted (by decide +kernel) (pa_cons (pe_dget (hu_of hr) (pv 0) (pe_str) (fun _ _ => rfl)) pa_nil))) (blkOk_by (own := [("_law_number", 2)]) (N := n_law_at) (sc := defScope s_law_at) (by decide +kernel)) (fun _ _ _ _ _ => pg_name (i := 2) sc_law_at.nd rfl (by first | exact Or.inl rfl | exact Or.inr rfl)) (fun _ _ _ _ _ => pts_one (pt_cmpR op_in_seq (pv 1) (pe_slice sl_tup (pe_dget (hu_of hr) (pe_dget (hu_of hr) (pv 0) (pe_str) (fun _ _ => rfl)) (pv 2) (fun _ _ => rfl)) po_none (po_some (pe_int))) (by rfl))) (fun _ _ _ _ _ => pv 2)))
theorem ok_law_at (T : Tx w K mg) : FnOk P w K mg base CX0 1 (He.fAd K ("_law_at", none)) (fdOf K ("_law_at", none)) ["_law_model", "_law_name"] (sp_law_at K) :=
  T.f_law_at.ok sc_law_at len_law_at fun cdv A outer s H vs Q E hr h => ⟨t_law_at K, (w_law_at T hr).nox, pure_law_at T vs H Q E h⟩
theorem w_law_point_changed (T : Tx w K mg) {cdv : Value} {A : Around} {outer : List Env} {s : Shared} {H : Hp} {E : XK} {f : Addr} (hr : Room 5 (A.deeper (envOfC "_law_point_changed" (defScope s_law_point_changed) s.heap.objs.size f cdv))) : PSs (cxOf CX0 P w K mg base n_law_point_changed "_law_point_changed" (defScope s_law_point_changed) f cdv A outer s H E).nox (defBody s_law_point_changed) (t_law_point_changed K) :=
  pss_cons (ps_set (i := 6) sc_law_point_changed.nd rfl (by first | exact Or.inl rfl | exact Or.inr rfl) (pe_dget (hu_of hr) (pv 1) (pe_str) (fun _ _ => rfl)))
    (pss_cons (ps_set (i := 7) sc_law_point_changed.nd rfl (by first | exact Or.inl rfl | exact Or.inr rfl) (pe_call (ok_law_draw T) (hr.mono (by decide)) (by rfl) T.g__law_draw T.f_law_draw.kp T.y_law_draw .nil pass0 (pa_cons (pv 3) (pa_cons (pv 4) (pa_cons (pe_int) pa_nil)))))
    (pss_cons (ps_set (i := 8) sc_law_point_changed.nd rfl (by first | exact Or.inl rfl | exact Or.inr rfl) (pe_ix ix_list (pv 6) (pe_op op_mod (pv 7) (pe_callB call_len_seq (by rfl) T.b_len (by decide +kernel) (pa_cons (pv 6) pa_nil))) (fun _ _ => rfl)))
    (pss_cons (ps_set (i := 9) sc_law_point_changed.nd rfl (by first | exact Or.inl rfl | exact Or.inr rfl) (pe_call (ok_law_at T) (hr.mono (by decide)) (by rfl) T.g__law_at T.f_law_at.kp T.y_law_at .nil pass0 (pa_cons (pv 1) (pa_cons (pv 8) pa_nil))))
    (pss_cons (ps_set (i := 10) sc_law_point_changed.nd rfl (by first | exact Or.inl rfl | exact Or.inr rfl) (pe_ix ix_list (pv 2) (pe_op op_mod (pe_op op_fdivW (pv 7) (pe_int)) (pe_callB call_len_seq (by rfl) T.b_len (by decide +kernel) (pa_cons (pv 2) pa_nil))) (fun _ _ => rfl)))
    (pss_cons (ps_if (pt_cmpR op_eq (pv 5) (pe_int) (nomark _)) (pss_cons (ps_asg (pv 10) (pg_sub (pv 6) (pe_bm PySem.F.plainAttrs_list PySem.F.slot_list_index PySem.F.type_list_index mt_index (pv 6) (pa_cons (pv 8) pa_nil)) set_list))
    (pss_cons (ps_expr (pe_call (ok_law_moved T) (hr.mono (by decide)) (by rfl) T.g__law_moved T.f_law_moved.kp T.y_law_moved .nil pass0 (pa_cons (pv 1) (pa_cons (pv 8) (pa_cons (pv 10) (pa_cons (pv 9) pa_nil))))))
    (pss_one (ps_ret (pe_cmpR op_isN (pe_meth (pv 0) T.c_Web T.m_Web_rename (ok_Web_rename T) (hr.mono (by decide)) T.y_Web_rename .nil pass0 (pa_cons (pv 8) (pa_cons (pv 10) pa_nil))) (pe_non) (nomark _)))))) pss_nil)
    (pss_cons (ps_if (PW.pt (pw_and (pt_cmpR op_eq (pv 5) (pe_int) (nomark _)) (pw_and1 (pt_cmpR op_lt (pe_callB call_len_seq (by rfl) T.b_len (by decide +kernel) (pa_cons (pv 6) pa_nil)) (pe_int) (nomark _))))) (pss_cons (ps_setLc (i := 11) (own := [("_law_j", 17)]) (by rfl) sc_law_point_changed.nd rfl rfl (sw_true rfl rfl rfl (by decide +kernel)) (pi_range1 (by rfl) T.b_range (pa_cons (pe_callB call_len_seq (by rfl) T.b_len (by decide +kernel) (pa_cons (pv 9) pa_nil)) pa_nil)) (blkOk_by (own := [("_law_j", 17)]) (N := n_law_point_changed) (sc := defScope s_law_point_changed) (by decide +kernel)) (fun _ _ _ _ _ => pg_name (i := 17) sc_law_point_changed.nd rfl (by first | exact Or.inl rfl | exact Or.inr rfl)) (fun _ _ _ _ _ => pts_nil) (fun _ _ _ _ _ => pe_op op_mod (pe_op op_fdivW (pv 7) (pe_op op_shl (pe_int) (pe_op op_mod (pv 17) (pe_int)))) (pe_int)))
    (pss_cons (ps_set (i := 12) sc_law_point_changed.nd rfl (by first | exact Or.inl rfl | exact Or.inr rfl) (pe_slStep (pe_lc (own := [("_law_number", 14), ("_law_bit", 18)]) (by rfl) sc_law_point_changed.nd (pi_zip (by rfl) T.b_zip (pa_cons (pv 9) (pa_cons (pv 11) pa_nil))) (blkOk_by (own := [("_law_number", 14), ("_law_bit", 18)]) (N := n_law_point_changed) (sc := defScope s_law_point_changed) (by decide +kernel)) (fun _ _ _ _ _ => pg_tup (by rfl) (pgs_cons (pg_name (i := 14) sc_law_point_changed.nd rfl (by first | exact Or.inl rfl | exact Or.inr rfl)) (pgs_cons (pg_name (i := 18) sc_law_point_changed.nd rfl (by first | exact Or.inl rfl | exact Or.inr rfl)) (pgs_nil)))) (fun _ _ _ _ _ => pts_one (pt_cmpR op_eq (pv 18) (pe_int) (nomark _))) (fun _ _ _ _ _ => pv 14)) (pe_ix ix_list (pe_lst (pa_cons (pe_int) (pa_cons (pe_un un_neg (pe_int)) pa_nil))) (pe_op op_mod (pv 7) (pe_int)) (fun _ _ => rfl))))
    (pss_cons (ps_expr (pe_bm PySem.F.plainAttrs_list PySem.F.slot_list_append PySem.F.type_list_append mt_append (pv 6) (pa_cons (pv 10) pa_nil)))
    (pss_cons (ps_expr (pe_call (ok_law_moved T) (hr.mono (by decide)) (by rfl) T.g__law_moved T.f_law_moved.kp T.y_law_moved .nil pass0 (pa_cons (pv 1) (pa_cons (pv 8) (pa_cons (pv 10) (pa_cons (pv 12) pa_nil))))))
    (pss_cons (ps_set (i := 13) sc_law_point_changed.nd rfl (by first | exact Or.inl rfl | exact Or.inr rfl) (pe_callTy call_list_of (by rfl) T.b_list (by decide +kernel) (pa_cons (pv 12) pa_nil)))
    (pss_one (ps_ret (pe_and (pe_cmpR op_isN (pe_meth (pv 0) T.c_Web T.m_Web_part (ok_Web_part T) (hr.mono (by decide)) T.y_Web_part .nil pass0 (pa_cons (pv 8) (pa_cons (pv 10) (pa_cons (pv 13) pa_nil)))) (pe_non) (nomark _)) (pe_one (pe_cmpR (op_eqD hr.units) (pv 13) (pv 12) (nomark _))))))))))) pss_nil)
    (pss_cons (ps_if (PW.pt (pw_and (pt_cmpR op_eq (pv 5) (pe_int) (nomark _)) (pw_and1 (pt_cmpR op_gt (pe_callB call_len_seq (by rfl) T.b_len (by decide +kernel) (pa_cons (pv 6) pa_nil)) (pe_int) (nomark _))))) (pss_cons (ps_set (i := 10) sc_law_point_changed.nd rfl (by first | exact Or.inl rfl | exact Or.inr rfl) (pe_ix ix_list (pv 6) (pe_op op_mod (pe_op op_add (pe_op op_add (pv 7) (pe_int)) (pe_op op_mod (pe_op op_fdivW (pv 7) (pe_int)) (pe_op op_sub (pe_callB call_len_seq (by rfl) T.b_len (by decide +kernel) (pa_cons (pv 6) pa_nil)) (pe_int)))) (pe_callB call_len_seq (by rfl) T.b_len (by decide +kernel) (pa_cons (pv 6) pa_nil))) (fun _ _ => rfl)))
    (pss_cons (ps_for PassesOwn.never (by rfl) (pi_list (pe_lc (own := [("_law_number", 14)]) (by rfl) sc_law_point_changed.nd (pi_list (pv 9)) (blkOk_by (own := [("_law_number", 14)]) (N := n_law_point_changed) (sc := defScope s_law_point_changed) (by decide +kernel)) (fun _ _ _ _ _ => pg_name (i := 14) sc_law_point_changed.nd rfl (by first | exact Or.inl rfl | exact Or.inr rfl)) (fun _ _ _ _ _ => pts_one (pt_cmpR op_in_seq (pv 10) (pe_slice sl_tup (pe_dget (hu_of hr) (pe_dget (hu_of hr) (pv 1) (pe_str) (fun _ _ => rfl)) (pv 14) (fun _ _ => rfl)) po_none (po_some (pe_int))) (by rfl))) (fun _ _ _ _ _ => pv 14))) (pg_name (i := 14) sc_law_point_changed.nd rfl (by first | exact Or.inl rfl | exact Or.inr rfl)) (pss_one (ps_expr (pe_dpop1 (pe_dget (hu_of hr) (pv 1) (pe_str) (fun _ _ => rfl)) (pv 14) ⟨by rfl, by rfl, by rfl, by rfl⟩))))
    (pss_cons (ps_expr (pe_call (ok_law_moved T) (hr.mono (by decide)) (by rfl) T.g__law_moved T.f_law_moved.kp T.y_law_moved .nil pass0 (pa_cons (pv 1) (pa_cons (pv 10) (pa_cons (pv 8) (pa_cons (pe_call (ok_law_at T) (hr.mono (by decide)) (by rfl) T.g__law_at T.f_law_at.kp T.y_law_at .nil pass0 (pa_cons (pv 1) (pa_cons (pv 10) pa_nil))) pa_nil))))))
    (pss_cons (ps_expr (pe_bm PySem.F.plainAttrs_list PySem.F.slot_list_remove PySem.F.type_list_remove mt_removeS (pv 6) (pa_cons (pv 10) pa_nil)))
    (pss_one (ps_ret (pe_cmpR op_isN (pe_meth (pv 0) T.c_Web T.m_Web_join (ok_Web_join T) (hr.mono (by decide)) T.y_Web_join .nil pass0 (pa_cons (pv 8) (pa_cons (pv 10) pa_nil))) (pe_non) (nomark _)))))))) pss_nil)
    (pss_cons (ps_setLc (i := 15) (own := [("_law_one", 19)]) (by rfl) sc_law_point_changed.nd rfl rfl (sw_true rfl rfl rfl (by decide +kernel)) (pi_list (pv 6)) (blkOk_by (own := [("_law_one", 19)]) (N := n_law_point_changed) (sc := defScope s_law_point_changed) (by decide +kernel)) (fun _ _ _ _ _ => pg_name (i := 19) sc_law_point_changed.nd rfl (by first | exact Or.inl rfl | exact Or.inr rfl)) (fun _ _ _ _ _ => pts_one (pt_cmpR (op_eqD hr.units) (pe_call (ok_law_at T) (hr.mono (by decide)) (by rfl) T.g__law_at T.f_law_at.kp T.y_law_at .nil pass0 (pa_cons (pv 1) (pa_cons (pv 19) pa_nil))) (pe_lst pa_nil) (nomark _))) (fun _ _ _ _ _ => pv 19))
    (pss_cons (ps_if (PW.pt (pw_or (pt_cmpR (op_eqD hr.units) (pv 15) (pe_lst pa_nil) (nomark _)) (pw_or1 (pt_cmpR op_lt (pe_callB call_len_seq (by rfl) T.b_len (by decide +kernel) (pa_cons (pv 6) pa_nil)) (pe_int) (nomark _))))) (pss_one (ps_ret (pe_bl))) pss_nil)
    (pss_cons (ps_expr (pe_bm PySem.F.plainAttrs_list PySem.F.slot_list_remove PySem.F.type_list_remove mt_removeS (pv 6) (pa_cons (pe_ix ix_list (pv 15) (pe_op op_mod (pv 7) (pe_callB call_len_seq (by rfl) T.b_len (by decide +kernel) (pa_cons (pv 15) pa_nil))) (fun _ _ => rfl)) pa_nil)))
    (pss_cons (ps_set (i := 16) sc_law_point_changed.nd rfl (by first | exact Or.inl rfl | exact Or.inr rfl) (pe_ix ix_list (pe_lc (own := [("_law_one", 19)]) (by rfl) sc_law_point_changed.nd (pi_list (pv 15)) (blkOk_by (own := [("_law_one", 19)]) (N := n_law_point_changed) (sc := defScope s_law_point_changed) (by decide +kernel)) (fun _ _ _ _ _ => pg_name (i := 19) sc_law_point_changed.nd rfl (by first | exact Or.inl rfl | exact Or.inr rfl)) (fun _ _ _ _ _ => pts_one (pt_cmpR op_notIn_seq (pv 19) (pv 6) (by rfl))) (fun _ _ _ _ _ => pv 19)) (pe_int) (fun _ _ => rfl)))
    (pss_one (ps_ret (pe_cmpR op_isN (pe_meth (pv 0) T.c_Web T.m_Web_drop_point (ok_Web_drop_point T) (hr.mono (by decide)) T.y_Web_drop_point .nil pass0 (pa_cons (pv 16) pa_nil)) (pe_non) (nomark _)))))))))))))))
theorem ok_law_point_changed (T : Tx w K mg) : FnOk P w K mg base CX0 6 (He.fAd K ("_law_point_changed", none)) (fdOf K ("_law_point_changed", none)) ["_law_web", "_law_model", "_law_free", "_law_cell", "_law_k", "_law_way"] (sp_law_point_changed K) :=
  T.f_law_point_changed.ok sc_law_point_changed len_law_point_changed fun cdv A outer s H vs Q E hr h => ⟨t_law_point_changed K, (w_law_point_changed T hr).nox, pure_law_point_changed T vs H Q E h⟩
theorem w_law_deed (T : Tx w K mg) {cdv : Value} {A : Around} {outer : List Env} {s : Shared} {H : Hp} {E : XK} {f : Addr} (hr : Room 6 (A.deeper (envOfC "_law_deed" (defScope s_law_deed) s.heap.objs.size f cdv))) : PSs (cxOf CX0 P w K mg base n_law_deed "_law_deed" (defScope s_law_deed) f cdv A outer s H E).nox (defBody s_law_deed) (t_law_deed K) :=
  pss_cons (ps_set (i := 5) sc_law_deed.nd rfl (by first | exact Or.inl rfl | exact Or.inr rfl) (pe_dget (hu_of hr) (pv 1) (pe_str) (fun _ _ => rfl)))
    (pss_cons (ps_set (i := 6) sc_law_deed.nd rfl (by first | exact Or.inl rfl | exact Or.inr rfl) (pe_op op_mod (pe_call (ok_law_draw T) (hr.mono (by decide)) (by rfl) T.g__law_draw T.f_law_draw.kp T.y_law_draw .nil pass0 (pa_cons (pv 3) (pa_cons (pv 4) (pa_cons (pe_int) pa_nil)))) (pe_int)))
    (pss_cons (ps_if (PW.pt (pw_and (pt_cmpR op_eq (pe_callB call_len_str (by rfl) T.b_len (by decide +kernel) (pa_cons (pe_ix ix_list (pv 2) (pe_int) (fun _ _ => rfl)) pa_nil)) (pe_int) (nomark _)) (pw_and1 (pt_cmpR op_gt (pe_callB call_len_seq (by rfl) T.b_len (by decide +kernel) (pa_cons (pv 5) pa_nil)) (pe_int) (nomark _))))) (pss_one (ps_set (i := 6) sc_law_deed.nd rfl (by first | exact Or.inl rfl | exact Or.inr rfl) (pe_int))) pss_nil)
    (pss_cons (ps_setLc (i := 7) (own := [("_law_name", 8)]) (by rfl) sc_law_deed.nd rfl rfl (sw_true rfl rfl rfl (by decide +kernel)) (pi_list (pv 2)) (blkOk_by (own := [("_law_name", 8)]) (N := n_law_deed) (sc := defScope s_law_deed) (by decide +kernel)) (fun _ _ _ _ _ => pg_name (i := 8) sc_law_deed.nd rfl (by first | exact Or.inl rfl | exact Or.inr rfl)) (fun _ _ _ _ _ => pts_one (pt_cmpR op_notIn_seq (pv 8) (pv 5) (by rfl))) (fun _ _ _ _ _ => pv 8))
    (pss_cons (ps_if (PW.pt (pw_and (PW.pt (pw_or (pt_cmpR op_lt (pv 6) (pe_int) (nomark _)) (pw_or1 (pt_cmpR op_lt (pe_callB call_len_seq (by rfl) T.b_len (by decide +kernel) (pa_cons (pv 5) pa_nil)) (pe_int) (nomark _))))) (pw_and1 (pt_cmpR op_lt (pe_callB call_len_seq (by rfl) T.b_len (by decide +kernel) (pa_cons (pv 5) pa_nil)) (pe_int) (nomark _))))) (pss_cons (ps_set (i := 8) sc_law_deed.nd rfl (by first | exact Or.inl rfl | exact Or.inr rfl) (pe_ix ix_list (pv 7) (pe_op op_mod (pe_call (ok_law_draw T) (hr.mono (by decide)) (by rfl) T.g__law_draw T.f_law_draw.kp T.y_law_draw .nil pass0 (pa_cons (pv 3) (pa_cons (pv 4) (pa_cons (pe_int) pa_nil)))) (pe_callB call_len_seq (by rfl) T.b_len (by decide +kernel) (pa_cons (pv 7) pa_nil))) (fun _ _ => rfl)))
    (pss_cons (ps_expr (pe_bm PySem.F.plainAttrs_list PySem.F.slot_list_append PySem.F.type_list_append mt_append (pv 5) (pa_cons (pv 8) pa_nil)))
    (pss_one (ps_ret (pe_cmpR op_isN (pe_meth (pv 0) T.c_Web T.m_Web_put_point (ok_Web_put_point T) (hr.mono (by decide)) T.y_Web_put_point .nil pass0 (pa_cons (pv 8) pa_nil)) (pe_non) (nomark _)))))) pss_nil)
    (pss_cons (ps_if (PW.pt (pw_and (pt_cmpR op_lt (pv 6) (pe_int) (nomark _)) (pw_and1 (pt_cmpR op_lt (pe_callB call_lenD (by rfl) T.b_len (by decide +kernel) (pa_cons (pe_dget (hu_of hr) (pv 1) (pe_str) (fun _ _ => rfl)) pa_nil)) (pe_int) (nomark _))))) (pss_one (ps_ret (pe_call (ok_law_put_tie T) (hr.mono (by decide)) (by rfl) T.g__law_put_tie T.f_law_put_tie.kp T.y_law_put_tie .nil pass0 (pa_cons (pv 0) (pa_cons (pv 1) (pa_cons (pv 3) (pa_cons (pv 4) pa_nil))))))) pss_nil)
    (pss_cons (ps_if (PW.pt (pw_and (pt_cmpR op_gt (pe_op op_mod (pv 6) (pe_int)) (pe_int) (nomark _)) (pw_and1 (pt_cmpR (op_neDK (Nat.lt_of_succ_lt (hu_of hr))) (pe_dget (hu_of hr) (pv 1) (pe_str) (fun _ _ => rfl)) (pe_dnewK) (nomark _))))) (pss_one (ps_ret (pe_call (ok_law_tie_changed T) (hr.mono (by decide)) (by rfl) T.g__law_tie_changed T.f_law_tie_changed.kp T.y_law_tie_changed .nil pass0 (pa_cons (pv 0) (pa_cons (pv 1) (pa_cons (pv 3) (pa_cons (pv 4) (pa_cons (pe_cmpR op_eq (pe_op op_mod (pv 6) (pe_int)) (pe_int) (nomark _)) pa_nil)))))))) pss_nil)
    (pss_one (ps_ret (pe_call (ok_law_point_changed T) (hr.mono (by decide)) (by rfl) T.g__law_point_changed T.f_law_point_changed.kp T.y_law_point_changed .nil pass0 (pa_cons (pv 0) (pa_cons (pv 1) (pa_cons (pv 7) (pa_cons (pv 3) (pa_cons (pv 4) (pa_cons (pe_op op_mod (pe_call (ok_law_draw T) (hr.mono (by decide)) (by rfl) T.g__law_draw T.f_law_draw.kp T.y_law_draw .nil pass0 (pa_cons (pv 3) (pa_cons (pv 4) (pa_cons (pe_int) pa_nil)))) (pe_int)) pa_nil)))))))))))))))
theorem ok_law_deed (T : Tx w K mg) : FnOk P w K mg base CX0 7 (He.fAd K ("_law_deed", none)) (fdOf K ("_law_deed", none)) ["_law_web", "_law_model", "_law_pool_here", "_law_cell", "_law_k"] (sp_law_deed K) :=
  T.f_law_deed.ok sc_law_deed len_law_deed fun cdv A outer s H vs Q E hr h => ⟨t_law_deed K, (w_law_deed T hr).nox, pure_law_deed T vs H Q E h⟩
theorem w_law_row (T : Tx w K mg) {cdv : Value} {A : Around} {outer : List Env} {s : Shared} {H : Hp} {E : XK} {f : Addr} (hr : Room 0 (A.deeper (envOfC "_law_row" (defScope s_law_row) s.heap.objs.size f cdv))) : PSs (cxOf CX0 P w K mg base n_law_row "_law_row" (defScope s_law_row) f cdv A outer s H E).nox (defBody s_law_row) (t_law_row K) :=
  pss_cons (ps_set (i := 1) sc_law_row.nd rfl (by first | exact Or.inl rfl | exact Or.inr rfl) (pe_tup (pa_cons (pe_fld (pv 0) rfl) (pa_cons (pe_fld (pv 0) rfl) (pa_cons (pe_fld (pv 0) rfl) (pa_cons (pe_fld (pv 0) rfl) (pa_cons (pe_fld (pv 0) rfl) pa_nil)))))))
    (pss_cons (ps_if (pt_cmpR (op_neD hr.units) (pe_lc (own := [("_law_one", 2)]) (by rfl) sc_law_row.nd (pi_tup (pe_tup (pa_cons (pe_ix ix_tup (pv 1) (pe_int) (fun _ _ => rfl)) (pa_cons (pe_ix ix_tup (pv 1) (pe_int) (fun _ _ => rfl)) pa_nil)))) (blkOk_by (own := [("_law_one", 2)]) (N := n_law_row) (sc := defScope s_law_row) (by decide +kernel)) (fun _ _ _ _ _ => pg_name (i := 2) sc_law_row.nd rfl (by first | exact Or.inl rfl | exact Or.inr rfl)) (fun _ _ _ _ _ => pts_one (PW.pt (pw_or (pt_val (pe_callB call_isi (by rfl) T.b_isinstance (by decide +kernel) (pa_cons (pv 2) (pa_cons (pe_bltn (v := .ty "bool") (u := .type "bool") (by rfl) T.b_bool (by decide +kernel) rfl) pa_nil)))) (pw_or1 (pt_not (pt_val (pe_callB call_isi (by rfl) T.b_isinstance (by decide +kernel) (pa_cons (pv 2) (pa_cons (pe_bltn (v := .ty "int") (u := .type "int") (by rfl) T.b_int (by decide +kernel) rfl) pa_nil))))))))) (fun _ _ _ _ _ => pv 2)) (pe_lst pa_nil) (nomark _)) (pss_one (ps_ret (pe_non))) pss_nil)
    (pss_one (ps_ret (pe_ifExp (PW.pt (pw_and (pt_val (pe_callB call_isi (by rfl) T.b_isinstance (by decide +kernel) (pa_cons (pe_ix ix_tup (pv 1) (pe_int) (fun _ _ => rfl)) (pa_cons (pe_bltn (v := .ty "str") (u := .type "str") (by rfl) T.b_str (by decide +kernel) rfl) pa_nil)))) (pw_and (pt_val (pe_callB call_isi (by rfl) T.b_isinstance (by decide +kernel) (pa_cons (pe_ix ix_tup (pv 1) (pe_int) (fun _ _ => rfl)) (pa_cons (pe_bltn (v := .ty "str") (u := .type "str") (by rfl) T.b_str (by decide +kernel) rfl) pa_nil)))) (pw_and1 (pt_val (pe_callB call_isi (by rfl) T.b_isinstance (by decide +kernel) (pa_cons (pe_ix ix_tup (pv 1) (pe_int) (fun _ _ => rfl)) (pa_cons (pe_bltn (v := .ty "bool") (u := .type "bool") (by rfl) T.b_bool (by decide +kernel) rfl) pa_nil)))))))) (pv 1) (pe_non)))))
theorem ok_law_row (T : Tx w K mg) : FnOk P w K mg base CX0 1 (He.fAd K ("_law_row", none)) (fdOf K ("_law_row", none)) ["_law_tie"] (sp_law_row K) :=
  T.f_law_row.ok sc_law_row len_law_row fun cdv A outer s H vs Q E hr h => ⟨t_law_row K, (w_law_row T hr).nox, pure_law_row T vs H Q E h⟩
theorem w_law_rows (T : Tx w K mg) {cdv : Value} {A : Around} {outer : List Env} {s : Shared} {H : Hp} {E : XK} {f : Addr} (hr : Room 0 (A.deeper (envOfC "_law_rows" (defScope s_law_rows) s.heap.objs.size f cdv))) : PSs (cxOf CX0 P w K mg base n_law_rows "_law_rows" (defScope s_law_rows) f cdv A outer s H E).nox (defBody s_law_rows) (t_law_rows K) :=
  pss_one (ps_ret (pe_lc (own := [("_law_number", 1)]) (by rfl) sc_law_rows.nd (pi_list (pe_callB (call_sortedDI (by rfl)) (by rfl) T.b_sorted (by decide +kernel) (pa_cons (pe_dget (hu_of hr) (pv 0) (pe_str) (fun _ _ => rfl)) pa_nil))) (blkOk_by (own := [("_law_number", 1)]) (N := n_law_rows) (sc := defScope s_law_rows) (by decide +kernel)) (fun _ _ _ _ _ => pg_name (i := 1) sc_law_rows.nd rfl (by first | exact Or.inl rfl | exact Or.inr rfl)) (fun _ _ _ _ _ => pts_nil) (fun _ _ _ _ _ => pe_op op_catT (pe_tup (pa_cons (pv 1) pa_nil)) (pe_dget (hu_of hr) (pe_dget (hu_of hr) (pv 0) (pe_str) (fun _ _ => rfl)) (pv 1) (fun _ _ => rfl)))))
theorem ok_law_rows (T : Tx w K mg) : FnOk P w K mg base CX0 1 (He.fAd K ("_law_rows", none)) (fdOf K ("_law_rows", none)) ["_law_model"] (sp_law_rows K) :=
  T.f_law_rows.ok sc_law_rows len_law_rows fun cdv A outer s H vs Q E hr h => ⟨t_law_rows K, (w_law_rows T hr).nox, pure_law_rows T vs H Q E h⟩
theorem w_law_stands (T : Tx w K mg) {cdv : Value} {A : Around} {outer : List Env} {s : Shared} {H : Hp} {E : XK} {f : Addr} (hr : Room 1 (A.deeper (envOfC "_law_stands" (defScope s_law_stands) s.heap.objs.size f cdv))) : PSs (cxOf CX0 P w K mg base n_law_stands "_law_stands" (defScope s_law_stands) f cdv A outer s H E).nox (defBody s_law_stands) (t_law_stands K) :=
  pss_cons (ps_setLc (i := 2) (own := [("_law_tie", 3)]) (by rfl) sc_law_stands.nd rfl rfl (sw_true rfl rfl rfl (by decide +kernel)) (pi_list (pe_meth0 (pv 0) T.c_Web T.m_Web_ties (ok_Web_ties T) (hr.mono (by decide)) T.y_Web_ties .nil pass0)) (blkOk_by (own := [("_law_tie", 3)]) (N := n_law_stands) (sc := defScope s_law_stands) (by decide +kernel)) (fun _ _ _ _ _ => pg_name (i := 3) sc_law_stands.nd rfl (by first | exact Or.inl rfl | exact Or.inr rfl)) (fun _ _ _ _ _ => pts_nil) (fun _ _ _ _ _ => pe_call (ok_law_row T) (hr.mono (by decide)) (by rfl) T.g__law_row T.f_law_row.kp T.y_law_row .nil pass0 (pa_cons (pv 3) pa_nil)))
    (pss_cons (ps_if (PW.pt (pw_or (pt_cmpR (op_neD hr.units) (pe_meth0 (pv 0) T.c_Web T.m_Web_points (ok_Web_points T) (hr.mono (by decide)) T.y_Web_points .nil pass0) (pe_dget (hu_of hr) (pv 1) (pe_str) (fun _ _ => rfl)) (nomark _)) (pw_or1 (pt_cmpR (op_neD hr.units) (pv 2) (pe_call (ok_law_rows T) (hr.mono (by decide)) (by rfl) T.g__law_rows T.f_law_rows.kp T.y_law_rows .nil pass0 (pa_cons (pv 1) pa_nil)) (nomark _))))) (pss_one (ps_ret (pe_bl))) pss_nil)
    (pss_one (ps_ret (pe_call (ok_law_whole T) (hr.mono (by decide)) (by rfl) T.g__law_whole T.f_law_whole.kp T.y_law_whole .nil pass0 (pa_cons (pe_meth0 (pv 0) T.c_Web T.m_Web_given (ok_Web_given T) (hr.mono (by decide)) T.y_Web_given .nil pass0) (pa_cons (pe_dget (hu_of hr) (pv 1) (pe_str) (fun _ _ => rfl)) pa_nil))))))
theorem ok_law_stands (T : Tx w K mg) : FnOk P w K mg base CX0 2 (He.fAd K ("_law_stands", none)) (fdOf K ("_law_stands", none)) ["_law_web", "_law_model"] (sp_law_stands K) :=
  T.f_law_stands.ok sc_law_stands len_law_stands fun cdv A outer s H vs Q E hr h => ⟨t_law_stands K, (w_law_stands T hr).nox, pure_law_stands T vs H Q E h⟩
theorem w_law_none (T : Tx w K mg) {cdv : Value} {A : Around} {outer : List Env} {s : Shared} {H : Hp} {E : XK} {f : Addr} (hr : Room 0 (A.deeper (envOfC "_law_none" (defScope s_law_none) s.heap.objs.size f cdv))) : PSs (cxOf CX0 P w K mg base n_law_none "_law_none" (defScope s_law_none) f cdv A outer s H E).nox (defBody s_law_none) (t_law_none K) :=
  pss_one (ps_ret (pe_disp (pps_cons (pe_str) (pe_lst pa_nil) (pps_cons (pe_str) (pe_dnewK) (pps_cons (pe_str) (pe_int) (pps_nil)))) (by rfl) (by rfl) (fun z => by cases z) (by decide)))
theorem ok_law_none (T : Tx w K mg) : FnOk P w K mg base CX0 1 (He.fAd K ("_law_none", none)) (fdOf K ("_law_none", none)) [] (sp_law_none K) :=
  T.f_law_none.ok sc_law_none len_law_none fun cdv A outer s H vs Q E hr h => ⟨t_law_none K, (w_law_none T hr).nox, pure_law_none T vs H Q E h⟩
theorem w_law_trees (T : Tx w K mg) {cdv : Value} {A : Around} {outer : List Env} {s : Shared} {H : Hp} {E : XK} {f : Addr} (hr : Room 0 (A.deeper (envOfC "_law_trees" (defScope s_law_trees) s.heap.objs.size f cdv))) : PSs (cxOf CX0 P w K mg base n_law_trees "_law_trees" (defScope s_law_trees) f cdv A outer s H E).nox (defBody s_law_trees) (t_law_trees K) :=
  pss_cons (ps_set (i := 2) sc_law_trees.nd rfl (by first | exact Or.inl rfl | exact Or.inr rfl) (pe_dnewK))
    (pss_cons (ps_for PassesOwn.never (by rfl) (pi_list (pe_dget (hu_of hr) (pv 0) (pe_str) (fun _ _ => rfl))) (pg_name (i := 3) sc_law_trees.nd rfl (by first | exact Or.inl rfl | exact Or.inr rfl)) (pss_one (ps_dput (hu_of hr) (pv 2) (pv 3) (pv 3) rfl)))
    (pss_cons (ps_for PassesOwn.never (by rfl) (pi_list (pv 1)) (pg_name (i := 4) sc_law_trees.nd rfl (by first | exact Or.inl rfl | exact Or.inr rfl)) (pss_cons (ps_asg (pe_lc (own := [("_law_name", 3)]) (by rfl) sc_law_trees.nd (pi_tup (pe_slice sl_tup (pe_dget (hu_of hr) (pe_dget (hu_of hr) (pv 0) (pe_str) (fun _ _ => rfl)) (pv 4) (fun _ _ => rfl)) po_none (po_some (pe_int)))) (blkOk_by (own := [("_law_name", 3)]) (N := n_law_trees) (sc := defScope s_law_trees) (by decide +kernel)) (fun _ _ _ _ _ => pg_name (i := 3) sc_law_trees.nd rfl (by first | exact Or.inl rfl | exact Or.inr rfl)) (fun _ _ _ _ _ => pts_nil) (fun _ _ _ _ _ => pe_dget (hu_of hr) (pv 2) (pv 3) (fun _ _ => rfl))) (pg_unl (by rfl) (pgs_cons (pg_name (i := 5) sc_law_trees.nd rfl (by first | exact Or.inl rfl | exact Or.inr rfl)) (pgs_cons (pg_name (i := 6) sc_law_trees.nd rfl (by first | exact Or.inl rfl | exact Or.inr rfl)) (pgs_nil)))))
    (pss_one (ps_for PassesOwn.never (by rfl) (pi_list (pe_dget (hu_of hr) (pv 0) (pe_str) (fun _ _ => rfl))) (pg_name (i := 3) sc_law_trees.nd rfl (by first | exact Or.inl rfl | exact Or.inr rfl)) (pss_one (ps_if (pt_cmpR op_eq (pe_dget (hu_of hr) (pv 2) (pv 3) (fun _ _ => rfl)) (pv 6) (nomark _)) (pss_one (ps_dput (hu_of hr) (pv 2) (pv 3) (pv 5) rfl)) pss_nil))))))
    (pss_one (ps_ret (pv 2)))))
theorem ok_law_trees (T : Tx w K mg) : FnOk P w K mg base CX0 1 (He.fAd K ("_law_trees", none)) (fdOf K ("_law_trees", none)) ["_law_model", "_law_numbers"] (sp_law_trees K) :=
  T.f_law_trees.ok sc_law_trees len_law_trees fun cdv A outer s H vs Q E hr h => ⟨t_law_trees K, (w_law_trees T hr).nox, pure_law_trees T vs H Q E h⟩
theorem w_law_pieces (T : Tx w K mg) {cdv : Value} {A : Around} {outer : List Env} {s : Shared} {H : Hp} {E : XK} {f : Addr} (hr : Room 1 (A.deeper (envOfC "_law_pieces" (defScope s_law_pieces) s.heap.objs.size f cdv))) : PSs (cxOf CX0 P w K mg base n_law_pieces "_law_pieces" (defScope s_law_pieces) f cdv A outer s H E).nox (defBody s_law_pieces) (t_law_pieces K) :=
  pss_cons (ps_set (i := 1) sc_law_pieces.nd rfl (by first | exact Or.inl rfl | exact Or.inr rfl) (pe_call (ok_law_trees T) (hr.mono (by decide)) (by rfl) T.g__law_trees T.f_law_trees.kp T.y_law_trees .nil pass0 (pa_cons (pv 0) (pa_cons (pe_callB (call_sortedDI (by rfl)) (by rfl) T.b_sorted (by decide +kernel) (pa_cons (pe_dget (hu_of hr) (pv 0) (pe_str) (fun _ _ => rfl)) pa_nil)) pa_nil))))
    (pss_cons (ps_set (i := 2) sc_law_pieces.nd rfl (by first | exact Or.inl rfl | exact Or.inr rfl) (pe_lst pa_nil))
    (pss_cons (ps_for PassesOwn.never (by rfl) (pi_list (pe_dget (hu_of hr) (pv 0) (pe_str) (fun _ _ => rfl))) (pg_name (i := 3) sc_law_pieces.nd rfl (by first | exact Or.inl rfl | exact Or.inr rfl)) (pss_cons (ps_setLc (i := 4) (own := [("_law_one", 5)]) (by rfl) sc_law_pieces.nd rfl rfl (sw_true rfl rfl rfl (by decide +kernel)) (pi_list (pe_dget (hu_of hr) (pv 0) (pe_str) (fun _ _ => rfl))) (blkOk_by (own := [("_law_one", 5)]) (N := n_law_pieces) (sc := defScope s_law_pieces) (by decide +kernel)) (fun _ _ _ _ _ => pg_name (i := 5) sc_law_pieces.nd rfl (by first | exact Or.inl rfl | exact Or.inr rfl)) (fun _ _ _ _ _ => pts_one (pt_cmpR op_eq (pe_dget (hu_of hr) (pv 1) (pv 5) (fun _ _ => rfl)) (pe_dget (hu_of hr) (pv 1) (pv 3) (fun _ _ => rfl)) (nomark _))) (fun _ _ _ _ _ => pv 5))
    (pss_one (ps_if (pt_cmpR (op_notInD (hu65 hr)) (pv 4) (pv 2) (by rfl)) (pss_one (ps_expr (pe_bm PySem.F.plainAttrs_list PySem.F.slot_list_append PySem.F.type_list_append mt_append (pv 2) (pa_cons (pv 4) pa_nil)))) pss_nil))))
    (pss_one (ps_ret (pv 2)))))
theorem ok_law_pieces (T : Tx w K mg) : FnOk P w K mg base CX0 2 (He.fAd K ("_law_pieces", none)) (fdOf K ("_law_pieces", none)) ["_law_model"] (sp_law_pieces K) :=
  T.f_law_pieces.ok sc_law_pieces len_law_pieces fun cdv A outer s H vs Q E hr h => ⟨t_law_pieces K, (w_law_pieces T hr).nox, pure_law_pieces T vs H Q E h⟩
theorem w_law_gone (T : Tx w K mg) {cdv : Value} {A : Around} {outer : List Env} {s : Shared} {H : Hp} {E : XK} {f : Addr} (hr : Room 0 (A.deeper (envOfC "_law_gone" (defScope s_law_gone) s.heap.objs.size f cdv))) : PSs (cxOf CX0 P w K mg base n_law_gone "_law_gone" (defScope s_law_gone) f cdv A outer s H E).nox (defBody s_law_gone) (t_law_gone K) :=
  pss_cons (ps_set (i := 3) sc_law_gone.nd rfl (by first | exact Or.inl rfl | exact Or.inr rfl) (pe_lst (pa_cons (pv 2) pa_nil)))
    (pss_cons (ps_for PassesOwn.never (by rfl) (pi_list (pv 1)) (pg_name (i := 4) sc_law_gone.nd rfl (by first | exact Or.inl rfl | exact Or.inr rfl)) (pss_cons (ps_if (PW.pt (pw_or (pt_cmp (pc_dnotin (hu_of hr) (pv 4) (pe_dget (hu_of hr) (pv 0) (pe_str) (fun _ _ => rfl)))) (pw_or1 (pt_cmpR op_notIn_seq (pe_ix ix_list (pv 3) (pe_un un_neg (pe_int)) (fun _ _ => rfl)) (pe_slice sl_tup (pe_dget (hu_of hr) (pe_dget (hu_of hr) (pv 0) (pe_str) (fun _ _ => rfl)) (pv 4) (fun _ _ => rfl)) po_none (po_some (pe_int))) (by rfl))))) (pss_one (ps_ret (pe_non))) pss_nil)
    (pss_cons (ps_set (i := 5) sc_law_gone.nd rfl (by first | exact Or.inl rfl | exact Or.inr rfl) (pe_slice sl_tup (pe_dget (hu_of hr) (pe_dget (hu_of hr) (pv 0) (pe_str) (fun _ _ => rfl)) (pv 4) (fun _ _ => rfl)) po_none (po_some (pe_int))))
    (pss_one (ps_expr (pe_bm PySem.F.plainAttrs_list PySem.F.slot_list_append PySem.F.type_list_append mt_append (pv 3) (pa_cons (pe_ifExp (pt_cmpR op_eq (pe_ix ix_tup (pv 5) (pe_int) (fun _ _ => rfl)) (pe_ix ix_list (pv 3) (pe_un un_neg (pe_int)) (fun _ _ => rfl)) (nomark _)) (pe_ix ix_tup (pv 5) (pe_int) (fun _ _ => rfl)) (pe_ix ix_tup (pv 5) (pe_int) (fun _ _ => rfl))) pa_nil)))))))
    (pss_one (ps_ret (pv 3))))
theorem ok_law_gone (T : Tx w K mg) : FnOk P w K mg base CX0 1 (He.fAd K ("_law_gone", none)) (fdOf K ("_law_gone", none)) ["_law_model", "_law_numbers", "_law_start"] (sp_law_gone K) :=
  T.f_law_gone.ok sc_law_gone len_law_gone fun cdv A outer s H vs Q E hr h => ⟨t_law_gone K, (w_law_gone T hr).nox, pure_law_gone T vs H Q E h⟩
theorem w_law_turned (T : Tx w K mg) {cdv : Value} {A : Around} {outer : List Env} {s : Shared} {H : Hp} {E : XK} {f : Addr} (hr : Room 0 (A.deeper (envOfC "_law_turned" (defScope s_law_turned) s.heap.objs.size f cdv))) : PSs (cxOf CX0 P w K mg base n_law_turned "_law_turned" (defScope s_law_turned) f cdv A outer s H E).nox (defBody s_law_turned) (t_law_turned K) :=
  pss_cons (ps_set (i := 3) sc_law_turned.nd rfl (by first | exact Or.inl rfl | exact Or.inr rfl) (pe_lst pa_nil))
    (pss_cons (ps_for PassesOwn.never (by rfl) (pi_enum (by rfl) T.b_enumerate (pa_cons (pv 0) pa_nil)) (pg_tup (by rfl) (pgs_cons (pg_name (i := 4) sc_law_turned.nd rfl (by first | exact Or.inl rfl | exact Or.inr rfl)) (pgs_cons (pg_name (i := 5) sc_law_turned.nd rfl (by first | exact Or.inl rfl | exact Or.inr rfl)) (pgs_nil)))) (pss_cons (ps_set (i := 6) sc_law_turned.nd rfl (by first | exact Or.inl rfl | exact Or.inr rfl) (pe_split (pv 5) (pe_str)))
    (pss_cons (ps_if (pt_cmpR op_eq (pe_callB call_len_seq (by rfl) T.b_len (by decide +kernel) (pa_cons (pv 6) pa_nil)) (pe_int) (nomark _)) (pss_cons (ps_set (i := 7) sc_law_turned.nd rfl (by first | exact Or.inl rfl | exact Or.inr rfl) (pe_op op_mod (pe_op op_fdivW (pv 1) (pe_op op_shl (pe_int) (pe_op op_mod (pv 4) (pe_int)))) (pe_int)))
    (pss_cons (ps_set (i := 8) sc_law_turned.nd rfl (by first | exact Or.inl rfl | exact Or.inr rfl) (pe_ifExp (pt_cmpR op_eq (pv 2) (pe_int) (nomark _)) (pe_ix ix_list (pv 6) (pe_int) (fun _ _ => rfl)) (pe_ix ix_list (pe_lst (pa_cons (pe_str) (pa_cons (pe_str) pa_nil))) (pe_op op_mod (pv 7) (pe_int)) (fun _ _ => rfl))))
    (pss_cons (ps_set (i := 9) sc_law_turned.nd rfl (by first | exact Or.inl rfl | exact Or.inr rfl) (pe_ifExp (PW.pt (pw_and (pt_cmpR op_eq (pv 2) (pe_int) (nomark _)) (pw_and1 (pt_cmpR op_gt (pv 7) (pe_int) (nomark _))))) (pe_revL (pe_slice sl_list (pv 6) (po_some (pe_int)) (po_some (pe_int)))) (pe_slice sl_list (pv 6) (po_some (pe_int)) (po_some (pe_int)))))
    (pss_one (ps_set (i := 6) sc_law_turned.nd rfl (by first | exact Or.inl rfl | exact Or.inr rfl) (pe_op op_cat (pe_op op_cat (pe_lst (pa_cons (pv 8) (pa_cons (pe_ix ix_list (pv 6) (pe_int) (fun _ _ => rfl)) pa_nil))) (pv 9)) (pe_lst (pa_cons (pe_callTy call_str_int (by rfl) T.b_str (by decide +kernel) (pa_cons (pe_op op_mod (pe_op op_fdivW (pv 1) (pe_op op_add (pe_int) (pv 4))) (pe_int)) pa_nil)) pa_nil)))))))) pss_nil)
    (pss_one (ps_expr (pe_bm PySem.F.plainAttrs_list PySem.F.slot_list_append PySem.F.type_list_append mt_append (pv 3) (pa_cons (pe_join (pe_str) (pv 6)) pa_nil)))))))
    (pss_one (ps_ret (pv 3))))
theorem ok_law_turned (T : Tx w K mg) : FnOk P w K mg base CX0 1 (He.fAd K ("_law_turned", none)) (fdOf K ("_law_turned", none)) ["_law_lines", "_law_n", "_law_way"] (sp_law_turned K) :=
  T.f_law_turned.ok sc_law_turned len_law_turned fun cdv A outer s H vs Q E hr h => ⟨t_law_turned K, (w_law_turned T hr).nox, pure_law_turned T vs H Q E h⟩
theorem w_law_rings_even (T : Tx w K mg) {cdv : Value} {A : Around} {outer : List Env} {s : Shared} {H : Hp} {E : XK} {f : Addr} (hr : Room 5 (A.deeper (envOfC "_law_rings_even" (defScope s_law_rings_even) s.heap.objs.size f cdv))) : PSs (cxOf CX0 P w K mg base n_law_rings_even "_law_rings_even" (defScope s_law_rings_even) f cdv A outer s H E).nox (defBody s_law_rings_even) (t_law_rings_even K) :=
  pss_cons (ps_set (i := 3) sc_law_rings_even.nd rfl (by first | exact Or.inl rfl | exact Or.inr rfl) (pe_bl))
    (pss_cons (ps_for PassesOwn.never (by rfl) (pi_list (pe_lc (own := [("_law_number", 4)]) (by rfl) sc_law_rings_even.nd (pi_list (pe_callB (call_sortedDI (by rfl)) (by rfl) T.b_sorted (by decide +kernel) (pa_cons (pe_dget (hu_of hr) (pv 1) (pe_str) (fun _ _ => rfl)) pa_nil))) (blkOk_by (own := [("_law_number", 4)]) (N := n_law_rings_even) (sc := defScope s_law_rings_even) (by decide +kernel)) (fun _ _ _ _ _ => pg_name (i := 4) sc_law_rings_even.nd rfl (by first | exact Or.inl rfl | exact Or.inr rfl)) (fun _ _ _ _ _ => pts_one (pt_cmpR op_notIn_seq (pv 4) (pv 2) (by rfl))) (fun _ _ _ _ _ => pv 4))) (pg_name (i := 4) sc_law_rings_even.nd rfl (by first | exact Or.inl rfl | exact Or.inr rfl)) (pss_cons (ps_set (i := 5) sc_law_rings_even.nd rfl (by first | exact Or.inl rfl | exact Or.inr rfl) (pe_call (ok_ring_by T) (hr.mono (by decide)) (by rfl) T.g_ring_by T.f_ring_by.kp T.y_ring_by .nil pass0 (pa_cons (pv 0) (pa_cons (pe_callTy call_list_of (by rfl) T.b_list (by decide +kernel) (pa_cons (pv 2) pa_nil)) (pa_cons (pv 4) pa_nil)))))
    (pss_cons (ps_asg (pe_slice sl_tup (pe_dget (hu_of hr) (pe_dget (hu_of hr) (pv 1) (pe_str) (fun _ _ => rfl)) (pv 4) (fun _ _ => rfl)) po_none (po_some (pe_int))) (pg_tup (by rfl) (pgs_cons (pg_name (i := 6) sc_law_rings_even.nd rfl (by first | exact Or.inl rfl | exact Or.inr rfl)) (pgs_cons (pg_name (i := 7) sc_law_rings_even.nd rfl (by first | exact Or.inl rfl | exact Or.inr rfl)) (pgs_nil)))))
    (pss_cons (ps_set (i := 8) sc_law_rings_even.nd rfl (by first | exact Or.inl rfl | exact Or.inr rfl) (pe_call (ok_law_gone T) (hr.mono (by decide)) (by rfl) T.g__law_gone T.f_law_gone.kp T.y_law_gone .nil pass0 (pa_cons (pv 1) (pa_cons (pe_slice sl_list (pv 5) (po_some (pe_int)) po_none) (pa_cons (pv 7) pa_nil)))))
    (pss_cons (ps_if (PW.pt (pw_or (pt_cmpR op_isN (pv 8) (pe_non) (nomark _)) (pw_or (pt_cmpR op_ne (pe_ix ix_list (pv 8) (pe_un un_neg (pe_int)) (fun _ _ => rfl)) (pv 6) (nomark _)) (pw_or1 (pt_cmpR op_ne (pe_ix ix_list (pv 5) (pe_int) (fun _ _ => rfl)) (pv 4) (nomark _)))))) (pss_one (ps_ret (pe_non))) pss_nil)
    (pss_one (ps_set (i := 3) sc_law_rings_even.nd rfl (by first | exact Or.inl rfl | exact Or.inr rfl) (pe_and (pv 3) (pe_one (pe_cmpR op_eq (pe_op op_mod (pe_callB call_len_seq (by rfl) T.b_len (by decide +kernel) (pa_cons (pv 5) pa_nil)) (pe_int)) (pe_int) (nomark _)))))))))))
    (pss_one (ps_ret (pv 3))))
theorem ok_law_rings_even (T : Tx w K mg) : FnOk P w K mg base CX0 6 (He.fAd K ("_law_rings_even", none)) (fdOf K ("_law_rings_even", none)) ["_law_web", "_law_model", "_law_chosen"] (sp_law_rings_even K) :=
  T.f_law_rings_even.ok sc_law_rings_even len_law_rings_even fun cdv A outer s H vs Q E hr h => ⟨t_law_rings_even K, (w_law_rings_even T hr).nox, pure_law_rings_even T vs H Q E h⟩
theorem w_law_way_row (T : Tx w K mg) {cdv : Value} {A : Around} {outer : List Env} {s : Shared} {H : Hp} {E : XK} {f : Addr} (hr : Room 0 (A.deeper (envOfC "_law_way_row" (defScope s_law_way_row) s.heap.objs.size f cdv))) : PSs (cxOf CX0 P w K mg base n_law_way_row "_law_way_row" (defScope s_law_way_row) f cdv A outer s H E).nox (defBody s_law_way_row) (t_law_way_row K) :=
  pss_cons (ps_if (pt_val (pe_callB call_isi (by rfl) T.b_isinstance (by decide +kernel) (pa_cons (pv 0) (pa_cons (pe_glob rfl T.g_Way rfl) pa_nil)))) (pss_one (ps_ret (pe_tup (pa_cons (pe_str) (pa_cons (pe_callTy call_list_of (by rfl) T.b_list (by decide +kernel) (pa_cons (pe_fld (pv 0) rfl) pa_nil)) pa_nil))))) pss_nil)
    (pss_one (ps_ret (pe_tup (pa_cons (pe_str) (pa_cons (pe_callTy call_list_of (by rfl) T.b_list (by decide +kernel) (pa_cons (pe_fld (pv 0) rfl) pa_nil)) pa_nil)))))
theorem ok_law_way_row (T : Tx w K mg) : FnOk P w K mg base CX0 1 (He.fAd K ("_law_way_row", none)) (fdOf K ("_law_way_row", none)) ["_law_found"] (sp_law_way_row K) :=
  T.f_law_way_row.ok sc_law_way_row len_law_way_row fun cdv A outer s H vs Q E hr h => ⟨t_law_way_row K, (w_law_way_row T hr).nox, pure_law_way_row T vs H Q E h⟩
theorem w_law_ways_good (T : Tx w K mg) {cdv : Value} {A : Around} {outer : List Env} {s : Shared} {H : Hp} {E : XK} {f : Addr} (hr : Room 7 (A.deeper (envOfC "_law_ways_good" (defScope s_law_ways_good) s.heap.objs.size f cdv))) : PSs (cxOf CX0 P w K mg base n_law_ways_good "_law_ways_good" (defScope s_law_ways_good) f cdv A outer s H E).nox (defBody s_law_ways_good) (t_law_ways_good K) :=
  pss_cons (ps_set (i := 4) sc_law_ways_good.nd rfl (by first | exact Or.inl rfl | exact Or.inr rfl) (pe_dget (hu_of hr) (pv 1) (pe_str) (fun _ _ => rfl)))
    (pss_cons (ps_if (pt_cmpR (op_eqD hr.units) (pv 4) (pe_lst pa_nil) (nomark _)) (pss_one (ps_ret (pe_bl))) pss_nil)
    (pss_cons (ps_set (i := 5) sc_law_ways_good.nd rfl (by first | exact Or.inl rfl | exact Or.inr rfl) (pe_ix ix_list (pv 4) (pe_op op_mod (pv 3) (pe_callB call_len_seq (by rfl) T.b_len (by decide +kernel) (pa_cons (pv 4) pa_nil))) (fun _ _ => rfl)))
    (pss_cons (ps_set (i := 6) sc_law_ways_good.nd rfl (by first | exact Or.inl rfl | exact Or.inr rfl) (pe_call (ok_web_of T) (hr.mono (by decide)) (by rfl) T.g_web_of T.f_web_of.kp T.y_web_of .nil pass0 (pa_cons (pe_call (ok_law_turned T) (hr.mono (by decide)) (by rfl) T.g__law_turned T.f_law_turned.kp T.y_law_turned .nil pass0 (pa_cons (pe_call (ok_web_lines T) (hr.mono (by decide)) (by rfl) T.g_web_lines T.f_web_lines.kp T.y_web_lines .nil pass0 (pa_cons (pv 0) pa_nil)) (pa_cons (pv 3) (pa_cons (pe_int) pa_nil)))) pa_nil)))
    (pss_cons (ps_for PassesOwn.never (by rfl) (pi_list (pv 4)) (pg_name (i := 7) sc_law_ways_good.nd rfl (by first | exact Or.inl rfl | exact Or.inr rfl)) (pss_cons (ps_set (i := 8) sc_law_ways_good.nd rfl (by first | exact Or.inl rfl | exact Or.inr rfl) (pe_call (ok_together T) (hr.mono (by decide)) (by rfl) T.g_together T.f_together.kp T.y_together .nil pass0 (pa_cons (pv 0) (pa_cons (pv 5) (pa_cons (pv 7) pa_nil)))))
    (pss_cons (ps_if (pt_cmpR (op_neD hr.units) (pe_call (ok_law_way_row T) (hr.mono (by decide)) (by rfl) T.g__law_way_row T.f_law_way_row.kp T.y_law_way_row .nil pass0 (pa_cons (pe_call (ok_together T) (hr.mono (by decide)) (by rfl) T.g_together T.f_together.kp T.y_together .nil pass0 (pa_cons (pv 6) (pa_cons (pv 5) (pa_cons (pv 7) pa_nil)))) pa_nil)) (pe_call (ok_law_way_row T) (hr.mono (by decide)) (by rfl) T.g__law_way_row T.f_law_way_row.kp T.y_law_way_row .nil pass0 (pa_cons (pv 8) pa_nil)) (nomark _)) (pss_one (ps_ret (pe_bl))) pss_nil)
    (pss_cons (ps_set (i := 9) sc_law_ways_good.nd rfl (by first | exact Or.inl rfl | exact Or.inr rfl) (pe_cmpR (op_neD hr.units) (pe_lc (own := [("_law_some", 11)]) (by rfl) sc_law_ways_good.nd (pi_list (pv 2)) (blkOk_by (own := [("_law_some", 11)]) (N := n_law_ways_good) (sc := defScope s_law_ways_good) (by decide +kernel)) (fun _ _ _ _ _ => pg_name (i := 11) sc_law_ways_good.nd rfl (by first | exact Or.inl rfl | exact Or.inr rfl)) (fun _ _ _ _ _ => pts_one (PW.pt (pw_and (pt_cmpR op_in_seq (pv 5) (pv 11) (by rfl)) (pw_and1 (pt_cmpR op_in_seq (pv 7) (pv 11) (by rfl)))))) (fun _ _ _ _ _ => pv 11)) (pe_lst pa_nil) (nomark _)))
    (pss_cons (ps_if (pt_cmpR op_ne (pe_callB call_isi (by rfl) T.b_isinstance (by decide +kernel) (pa_cons (pv 8) (pa_cons (pe_glob rfl T.g_Way rfl) pa_nil))) (pv 9) (nomark _)) (pss_one (ps_ret (pe_bl))) pss_nil)
    (pss_one (ps_if (pt_val (pv 9)) (pss_cons (ps_set (i := 10) sc_law_ways_good.nd rfl (by first | exact Or.inl rfl | exact Or.inr rfl) (pe_call (ok_law_gone T) (hr.mono (by decide)) (by rfl) T.g__law_gone T.f_law_gone.kp T.y_law_gone .nil pass0 (pa_cons (pv 1) (pa_cons (pe_fld (pv 8) rfl) (pa_cons (pv 5) pa_nil)))))
    (pss_one (ps_if (PW.pt (pw_or (pt_cmpR op_isN (pv 10) (pe_non) (nomark _)) (pw_or1 (pt_cmpR op_ne (pe_ix ix_list (pv 10) (pe_un un_neg (pe_int)) (fun _ _ => rfl)) (pv 7) (nomark _))))) (pss_one (ps_ret (pe_bl))) pss_nil))) pss_nil)))))))
    (pss_one (ps_ret (pe_bl)))))))
theorem ok_law_ways_good (T : Tx w K mg) : FnOk P w K mg base CX0 8 (He.fAd K ("_law_ways_good", none)) (fdOf K ("_law_ways_good", none)) ["_law_web", "_law_model", "_law_mine", "_law_n"] (sp_law_ways_good K) :=
  T.f_law_ways_good.ok sc_law_ways_good len_law_ways_good fun cdv A outer s H vs Q E hr h => ⟨t_law_ways_good K, (w_law_ways_good T hr).nox, pure_law_ways_good T vs H Q E h⟩
theorem w_law_good (T : Tx w K mg) {cdv : Value} {A : Around} {outer : List Env} {s : Shared} {H : Hp} {E : XK} {f : Addr} (gd : A.guards = some []) (hr : Room 8 (A.deeper (envOfC "_law_good" (defScope s_law_good) s.heap.objs.size f cdv))) : PSs (cxOf CX0 P w K mg base n_law_good "_law_good" (defScope s_law_good) f cdv A outer s H E).nox (defBody s_law_good) (t_law_good K) :=
  pss_cons (ps_set (i := 4) sc_law_good.nd rfl (by first | exact Or.inl rfl | exact Or.inr rfl) (pe_call (ok_pieces T) (hr.mono (by decide)) (by rfl) T.g_pieces T.f_pieces.kp T.y_pieces .nil pass0 (pa_cons (pv 0) pa_nil)))
    (pss_cons (ps_if (pt_cmpR (op_neD hr.units) (pv 4) (pe_call (ok_law_pieces T) (hr.mono (by decide)) (by rfl) T.g__law_pieces T.f_law_pieces.kp T.y_law_pieces .nil pass0 (pa_cons (pv 1) pa_nil)) (nomark _)) (pss_one (ps_ret (pe_bl))) pss_nil)
    (pss_cons (ps_set (i := 5) sc_law_good.nd rfl (by first | exact Or.inl rfl | exact Or.inr rfl) (pe_call (ok_forest T) (hr.mono (by decide)) (by rfl) T.g_forest T.f_forest.kp T.y_forest .nil pass0 (pa_cons (pv 0) pa_nil)))
    (pss_cons (ps_set (i := 6) sc_law_good.nd rfl (by first | exact Or.inl rfl | exact Or.inr rfl) (pe_call (ok_law_trees T) (hr.mono (by decide)) (by rfl) T.g__law_trees T.f_law_trees.kp T.y_law_trees .nil pass0 (pa_cons (pv 1) (pa_cons (pv 5) pa_nil))))
    (pss_cons (ps_for PassesOwn.never (by rfl) (pi_list (pv 4)) (pg_name (i := 7) sc_law_good.nd rfl (by first | exact Or.inl rfl | exact Or.inr rfl)) (pss_one (ps_if (pt_cmpR op_ne (pe_lenSetR (by rfl) (by rfl) T.b_len (by rfl) T.b_set (pe_lc (own := [("_law_name", 12)]) (by rfl) sc_law_good.nd (pi_list (pv 7)) (blkOk_by (own := [("_law_name", 12)]) (N := n_law_good) (sc := defScope s_law_good) (by decide +kernel)) (fun _ _ _ _ _ => pg_name (i := 12) sc_law_good.nd rfl (by first | exact Or.inl rfl | exact Or.inr rfl)) (fun _ _ _ _ _ => pts_nil) (fun _ _ _ _ _ => pe_dget (hu_of hr) (pv 6) (pv 12) (fun _ _ => rfl)))) (pe_int) (nomark _)) (pss_one (ps_ret (pe_bl))) pss_nil)))
    (pss_cons (ps_set (i := 8) sc_law_good.nd rfl (by first | exact Or.inl rfl | exact Or.inr rfl) (pe_call (ok_law_rings_even T) (hr.mono (by decide)) (by rfl) T.g__law_rings_even T.f_law_rings_even.kp T.y_law_rings_even .nil pass0 (pa_cons (pv 0) (pa_cons (pv 1) (pa_cons (pv 5) pa_nil)))))
    (pss_cons (ps_set (i := 9) sc_law_good.nd rfl (by first | exact Or.inl rfl | exact Or.inr rfl) (pe_call (ok_sides T) (hr.mono (by decide)) (by rfl) T.g_sides T.f_sides.kp T.y_sides .nil pass0 (pa_cons (pv 0) pa_nil)))
    (pss_cons (ps_if (PW.pt (pw_or (pt_cmpR op_isN (pv 8) (pe_non) (nomark _)) (pw_or1 (pt_cmpR op_ne (pe_callB call_isi (by rfl) T.b_isinstance (by decide +kernel) (pa_cons (pv 9) (pa_cons (pe_glob rfl T.g_Sides rfl) pa_nil))) (pv 8) (nomark _))))) (pss_one (ps_ret (pe_bl))) pss_nil)
    (pss_cons (ps_if (pt_cmpR (op_neD hr.units) (pe_call (ok_forest T) (hr.mono (by decide)) (by rfl) T.g_forest T.f_forest.kp T.y_forest .nil pass0 (pa_cons (pe_call (ok_web_of T) (hr.mono (by decide)) (by rfl) T.g_web_of T.f_web_of.kp T.y_web_of .nil pass0 (pa_cons (pe_call (ok_law_turned T) (hr.mono (by decide)) (by rfl) T.g__law_turned T.f_law_turned.kp T.y_law_turned .nil pass0 (pa_cons (pe_call (ok_web_lines T) (hr.mono (by decide)) (by rfl) T.g_web_lines T.f_web_lines.kp T.y_web_lines .nil pass0 (pa_cons (pv 0) pa_nil)) (pa_cons (pv 2) (pa_cons (pe_int) pa_nil)))) pa_nil)) pa_nil)) (pv 5) (nomark _)) (pss_one (ps_ret (pe_bl))) pss_nil)
    (pss_cons (ps_set (i := 10) sc_law_good.nd rfl (by first | exact Or.inl rfl | exact Or.inr rfl) (pe_call (ok_web_of T) (hr.mono (by decide)) (by rfl) T.g_web_of T.f_web_of.kp T.y_web_of .nil pass0 (pa_cons (pe_call (ok_law_turned T) (hr.mono (by decide)) (by rfl) T.g__law_turned T.f_law_turned.kp T.y_law_turned .nil pass0 (pa_cons (pe_call (ok_web_lines T) (hr.mono (by decide)) (by rfl) T.g_web_lines T.f_web_lines.kp T.y_web_lines .nil pass0 (pa_cons (pv 0) pa_nil)) (pa_cons (pv 2) (pa_cons (pe_int) pa_nil)))) pa_nil)))
    (pss_cons (ps_set (i := 11) sc_law_good.nd rfl (by first | exact Or.inl rfl | exact Or.inr rfl) (pe_call (ok_sides T) (hr.mono (by decide)) (by rfl) T.g_sides T.f_sides.kp T.y_sides .nil pass0 (pa_cons (pv 10) pa_nil)))
    (pss_cons (ps_if (PW.pt (pw_or (pt_cmpR (op_neD hr.units) (pe_call (ok_pieces T) (hr.mono (by decide)) (by rfl) T.g_pieces T.f_pieces.kp T.y_pieces .nil pass0 (pa_cons (pv 10) pa_nil)) (pv 4) (nomark _)) (pw_or1 (pt_cmpR op_ne (pe_callB call_isi (by rfl) T.b_isinstance (by decide +kernel) (pa_cons (pv 11) (pa_cons (pe_glob rfl T.g_Sides rfl) pa_nil))) (pv 8) (nomark _))))) (pss_one (ps_ret (pe_bl))) pss_nil)
    (pss_cons (ps_if (PW.pt (pw_and (pt_val (pv 8)) (pw_and1 (pt_cmpR (op_neDK (Nat.lt_of_succ_lt (hu_of hr))) (pe_fld (pv 11) rfl) (pe_fld (pv 9) rfl) (nomark _))))) (pss_one (ps_ret (pe_bl))) pss_nil)
    (pss_cons (ps_expr (pe_bm PySem.F.plainAttrs_list PySem.F.slot_list_append PySem.F.type_list_append mt_append (pv 3) (pa_cons (pe_tup (pa_cons (pv 4) (pa_cons (pe_callB (call_reprD hr.units gd) (by rfl) T.b_repr (by decide +kernel) (pa_cons (pv 4) pa_nil)) pa_nil))) pa_nil)))
    (pss_cons (ps_expr (pe_bm PySem.F.plainAttrs_list PySem.F.slot_list_append PySem.F.type_list_append mt_append (pv 3) (pa_cons (pe_tup (pa_cons (pv 5) (pa_cons (pe_callB (call_reprD hr.units gd) (by rfl) T.b_repr (by decide +kernel) (pa_cons (pv 5) pa_nil)) pa_nil))) pa_nil)))
    (pss_one (ps_ret (pe_call (ok_law_ways_good T) (hr.mono (by decide)) (by rfl) T.g__law_ways_good T.f_law_ways_good.kp T.y_law_ways_good .nil pass0 (pa_cons (pv 0) (pa_cons (pv 1) (pa_cons (pv 4) (pa_cons (pv 2) pa_nil)))))))))))))))))))))
theorem ok_law_good (T : Tx w K mg) : FnOkG P w K mg base 9 (He.fAd K ("_law_good", none)) (fdOf K ("_law_good", none)) ["_law_web", "_law_model", "_law_n", "_law_held"] (sp_law_good K) :=
  .of T.f_law_good sc_law_good len_law_good fun cdv A outer s H vs Q E gd hr h => ⟨t_law_good K, (w_law_good T gd hr).nox, pure_law_good T vs H Q E h⟩
theorem w_law_filled (T : Tx w K mg) {cdv : Value} {A : Around} {outer : List Env} {s : Shared} {H : Hp} {E : XK} {f : Addr} (hr : Room 6 (A.deeper (envOfC "_law_filled" (defScope s_law_filled) s.heap.objs.size f cdv))) : PSs (cxOf CX0 P w K mg base n_law_filled "_law_filled" (defScope s_law_filled) f cdv A outer s H E).nox (defBody s_law_filled) (t_law_filled K) :=
  pss_cons (ps_setLc (i := 4) (own := [("_law_name", 5)]) (by rfl) sc_law_filled.nd rfl rfl (sw_true rfl rfl rfl (by decide +kernel)) (pi_list (pv 2)) (blkOk_by (own := [("_law_name", 5)]) (N := n_law_filled) (sc := defScope s_law_filled) (by decide +kernel)) (fun _ _ _ _ _ => pg_name (i := 5) sc_law_filled.nd rfl (by first | exact Or.inl rfl | exact Or.inr rfl)) (fun _ _ _ _ _ => pts_one (pt_cmpR op_notIn_seq (pv 5) (pe_dget (hu_of hr) (pv 1) (pe_str) (fun _ _ => rfl)) (by rfl))) (fun _ _ _ _ _ => pv 5))
    (pss_cons (ps_for PassesOwn.never (by rfl) (pi_list (pe_slice sl_list (pv 4) po_none (po_some (pe_op op_sub (pe_int) (pe_callB call_len_seq (by rfl) T.b_len (by decide +kernel) (pa_cons (pe_dget (hu_of hr) (pv 1) (pe_str) (fun _ _ => rfl)) pa_nil)))))) (pg_name (i := 5) sc_law_filled.nd rfl (by first | exact Or.inl rfl | exact Or.inr rfl)) (pss_cons (ps_expr (pe_meth (pv 0) T.c_Web T.m_Web_put_point (ok_Web_put_point T) (hr.mono (by decide)) T.y_Web_put_point .nil pass0 (pa_cons (pv 5) pa_nil)))
    (pss_one (ps_expr (pe_bm PySem.F.plainAttrs_list PySem.F.slot_list_append PySem.F.type_list_append mt_append (pe_dget (hu_of hr) (pv 1) (pe_str) (fun _ _ => rfl)) (pa_cons (pv 5) pa_nil))))))
    (pss_cons (ps_for PassesOwn.never (by rfl) (pi_range1 (by rfl) T.b_range (pa_cons (pe_op op_sub (pe_int) (pe_callB call_lenD (by rfl) T.b_len (by decide +kernel) (pa_cons (pe_dget (hu_of hr) (pv 1) (pe_str) (fun _ _ => rfl)) pa_nil))) pa_nil)) (pg_name (i := 6) sc_law_filled.nd rfl (by first | exact Or.inl rfl | exact Or.inr rfl)) (pss_one (ps_if (pt_not (pt_val (pe_call (ok_law_put_tie T) (hr.mono (by decide)) (by rfl) T.g__law_put_tie T.f_law_put_tie.kp T.y_law_put_tie .nil pass0 (pa_cons (pv 0) (pa_cons (pv 1) (pa_cons (pe_op op_add (pv 3) (pv 6)) (pa_cons (pv 6) pa_nil))))))) (pss_one (ps_ret (pe_bl))) pss_nil)))
    (pss_one (ps_ret (pe_bl)))))
theorem ok_law_filled (T : Tx w K mg) : FnOk P w K mg base CX0 7 (He.fAd K ("_law_filled", none)) (fdOf K ("_law_filled", none)) ["_law_web", "_law_model", "_law_pool_here", "_law_n"] (sp_law_filled K) :=
  T.f_law_filled.ok sc_law_filled len_law_filled fun cdv A outer s H vs Q E hr h => ⟨t_law_filled K, (w_law_filled T hr).nox, pure_law_filled T vs H Q E h⟩
theorem w_law (T : Tx w K mg) {cdv : Value} {A : Around} {outer : List Env} {s : Shared} {H : Hp} {E : XK} {f : Addr} (gd : A.guards = some []) (hr : Room 9 (A.deeper (envOfC "law" (defScope s_law) s.heap.objs.size f cdv))) : PSs (cxOf CX0 P w K mg base n_law "law" (defScope s_law) f cdv A outer s H E).nox (defBody s_law) (t_law K) :=
  pss_cons (ps_set (i := 1) sc_law.nd rfl (by first | exact Or.inl rfl | exact Or.inr rfl) (pe_slice sl_list (pv 0) po_none (po_some (pe_int))))
    (pss_cons (ps_set (i := 2) sc_law.nd rfl (by first | exact Or.inl rfl | exact Or.inr rfl) (pe_call (ok_law_pool T) (hr.mono (by decide)) (by rfl) T.g__law_pool T.f_law_pool.kp T.y_law_pool .nil pass0 (pa_cons (pe_callB (cr_sum (by rfl)) (by rfl) T.b_sum (by decide +kernel) (pa_cons (pe_slice sl_list (pv 1) po_none (po_some (pe_int))) pa_nil)) pa_nil)))
    (pss_cons (ps_set (i := 3) sc_law.nd rfl (by first | exact Or.inl rfl | exact Or.inr rfl) (pe_make0 T.k_Web (ok_Web_init T) (hr.mono (by decide)) (by rfl) T.g_Web T.y_Web_init .nil pass0))
    (pss_cons (ps_set (i := 4) sc_law.nd rfl (by first | exact Or.inl rfl | exact Or.inr rfl) (pe_call0 (ok_law_none T) (hr.mono (by decide)) (by rfl) T.g__law_none T.f_law_none.kp T.y_law_none .nil pass0))
    (pss_cons (ps_set (i := 5) sc_law.nd rfl (by first | exact Or.inl rfl | exact Or.inr rfl) (pe_lst pa_nil))
    (pss_cons (ps_for PassesOwn.never (by rfl) (pi_enum (by rfl) T.b_enumerate (pa_cons (pv 1) pa_nil)) (pg_tup (by rfl) (pgs_cons (pg_name (i := 6) sc_law.nd rfl (by first | exact Or.inl rfl | exact Or.inr rfl)) (pgs_cons (pg_name (i := 7) sc_law.nd rfl (by first | exact Or.inl rfl | exact Or.inr rfl)) (pgs_nil)))) (pss_cons (ps_if (pt_not (pt_val (pe_call (ok_law_deed T) (hr.mono (by decide)) (by rfl) T.g__law_deed T.f_law_deed.kp T.y_law_deed .nil pass0 (pa_cons (pv 3) (pa_cons (pv 4) (pa_cons (pv 2) (pa_cons (pv 7) (pa_cons (pv 6) pa_nil)))))))) (pss_one (ps_ret (pe_bl))) pss_nil)
    (pss_cons (ps_set (i := 8) sc_law.nd rfl (by first | exact Or.inl rfl | exact Or.inr rfl) (pe_call (ok_law_draw T) (hr.mono (by decide)) (by rfl) T.g__law_draw T.f_law_draw.kp T.y_law_draw .nil pass0 (pa_cons (pv 7) (pa_cons (pv 6) (pa_cons (pe_int) pa_nil)))))
    (pss_cons (ps_if (PW.pt (pw_and (pt_cmpR op_eq (pe_op op_mod (pe_op op_fdivW (pv 8) (pe_int)) (pe_int)) (pe_int) (nomark _)) (pw_and1 (pt_not (pt_val (pe_callG (ok_law_good T) gd (hr.mono (by decide)) (by rfl) T.g__law_good T.f_law_good.kp T.y_law_good (pa_cons (pv 3) (pa_cons (pv 4) (pa_cons (pv 8) (pa_cons (pv 5) pa_nil)))))))))) (pss_one (ps_ret (pe_bl))) pss_nil)
    (pss_one (ps_if (pt_not (pt_val (pe_call (ok_law_stands T) (hr.mono (by decide)) (by rfl) T.g__law_stands T.f_law_stands.kp T.y_law_stands .nil pass0 (pa_cons (pv 3) (pa_cons (pv 4) pa_nil))))) (pss_one (ps_ret (pe_bl))) pss_nil))))))
    (pss_cons (ps_set (i := 8) sc_law.nd rfl (by first | exact Or.inl rfl | exact Or.inr rfl) (pe_call (ok_law_draw T) (hr.mono (by decide)) (by rfl) T.g__law_draw T.f_law_draw.kp T.y_law_draw .nil pass0 (pa_cons (pe_callB (cr_sum (by rfl)) (by rfl) T.b_sum (by decide +kernel) (pa_cons (pe_slice sl_list (pv 1) po_none (po_some (pe_int))) pa_nil)) (pa_cons (pe_int) (pa_cons (pe_int) pa_nil)))))
    (pss_cons (ps_if (PW.pt (pw_and (pt_cmpR op_eq (pe_op op_mod (pv 8) (pe_int)) (pe_int) (nomark _)) (pw_and1 (pt_not (pt_val (pe_call (ok_law_filled T) (hr.mono (by decide)) (by rfl) T.g__law_filled T.f_law_filled.kp T.y_law_filled .nil pass0 (pa_cons (pv 3) (pa_cons (pv 4) (pa_cons (pv 2) (pa_cons (pv 8) pa_nil)))))))))) (pss_one (ps_ret (pe_bl))) pss_nil)
    (pss_cons (ps_if (pt_not (pt_val (pe_callG (ok_law_good T) gd (hr.mono (by decide)) (by rfl) T.g__law_good T.f_law_good.kp T.y_law_good (pa_cons (pv 3) (pa_cons (pv 4) (pa_cons (pe_call (ok_law_draw T) (hr.mono (by decide)) (by rfl) T.g__law_draw T.f_law_draw.kp T.y_law_draw .nil pass0 (pa_cons (pe_callB (cr_sum (by rfl)) (by rfl) T.b_sum (by decide +kernel) (pa_cons (pe_slice sl_list (pv 1) po_none (po_some (pe_int))) pa_nil)) (pa_cons (pe_int) (pa_cons (pe_int) pa_nil)))) (pa_cons (pv 5) pa_nil))))))) (pss_one (ps_ret (pe_bl))) pss_nil)
    (pss_one (ps_ret (pe_cmpR (op_eqD hr.units) (pe_lc (own := [("_law_pair", 9)]) (by rfl) sc_law.nd (pi_list (pv 5)) (blkOk_by (own := [("_law_pair", 9)]) (N := n_law) (sc := defScope s_law) (by decide +kernel)) (fun _ _ _ _ _ => pg_name (i := 9) sc_law.nd rfl (by first | exact Or.inl rfl | exact Or.inr rfl)) (fun _ _ _ _ _ => pts_one (pt_cmpR op_ne (pe_callB (call_reprD hr.units gd) (by rfl) T.b_repr (by decide +kernel) (pa_cons (pe_ix ix_tup (pv 9) (pe_int) (fun _ _ => rfl)) pa_nil)) (pe_ix ix_tup (pv 9) (pe_int) (fun _ _ => rfl)) (nomark _))) (fun _ _ _ _ _ => pv 9)) (pe_lst pa_nil) (nomark _))))))))))))
theorem ok_law (T : Tx w K mg) : FnOkG P w K mg base 10 (He.fAd K ("law", none)) (fdOf K ("law", none)) ["_law_script"] (sp_law K) :=
  .of T.f_law sc_law len_law fun cdv A outer s H vs Q E gd hr h => ⟨t_law K, (w_law T gd hr).nox, pure_law T vs H Q E h⟩
end
end RB
set_option maxHeartbeats 0
namespace RB
open PySem PySem.Spec PyProof.Rows L2
theorem law_facts {l : PySem.W.OpenLaw} {w : World} {mg : Str → Option Value} {fa : Addr} {h : Heap} (Y : hk.says w h) (G : h.Ns mainGlobals mg) (hm : mg "law" = some (.ref fa)) :
    ∃ (K : PySem.W.Frag) (fd : FuncData) (sp : Sp), K.In h ∧ (∀ (s : Shared) (u : Value), BindsTo s fd ⟨[u], []⟩ [("_law_script", u)]) ∧
      (∀ (H : Hp) (a : Addr) (ns : List Int), ns.length ≤ 63 → (∀ z ∈ ns, Builtin.Int.intBits z ≤ 1048576) → SqL K H a (ns.map V.int) → sp [.ref a] H (fun v _ => v = .bl true) E0) ∧
      ∀ base : Heap, K.In base → base.Ns mainGlobals mg → FnOkG l.prog w K mg base 10 fa fd ["_law_script"] sp := by
  obtain ⟨K, KX, c, m⟩ := Y
  have T : Tx w K mg := ⟨⟨h, KX, G⟩, c, m⟩
  have e := hm.symm.trans T.g_law
  cases e
  have b := FunD.bindsA (ps := ["_law_script"]) T.f_law fun _ _ _ _ _ _ us hl => match us, hl with | [_], _ => rfl
  exact ⟨K, fdOf K ("law", none), sp_law K, KX, fun s v => b s [v] rfl, fun H a ns hl _ hS => ⟨a, ns, rfl, hS, hl, fun _ => rfl⟩, fun base _ _ => ok_law T⟩
end RB
open PySem PySem.W PySem.Calls PyProof.Rows
theorem PySem.Challenge.cw_reachbook_k09_whole_plain_ties_holds : PySem.Challenge.rw_reachbook_k09_whole_plain_ties.Holds := by
  w_on; o_law
  refine HandSHeadRun.head_any (r := OpenLaw.row PySem.Challenge.rw_reachbook_k09_whole_plain_ties) (q := view (OpenLaw.row PySem.Challenge.rw_reachbook_k09_whole_plain_ties).prog [80]) (H := RB.hk) (ob := RB.hkOb) (M := 20000) (loose := RB.loose) (d := HandSHeadRun.topDef (OpenLaw.row PySem.Challenge.rw_reachbook_k09_whole_plain_ties).prog 80) (kwd := []) RB.hkOb_eq
    (by kernel_rfl) (fun s => by kernel_rfl) RB.hRun (by kernel_rfl) (by kernel_rfl) (by kernel_rfl) (by rfl) (by first | assumption | decide +kernel) (by decide +kernel) ⟨rfl, rfl, rfl, rfl, rfl, by decide +kernel⟩ ?hw ?hc
  case hw => w_witness2
  case hc =>
    refine RB.law_walk (l := PySem.Challenge.rw_reachbook_k09_whole_plain_ties) (n := 63) (k := 10) (x := "_law_script") rfl (by decide) (by kernel_rfl) ⟨rfl, by decide, by decide⟩ ?F
    intro w mg fa h Y G hmg0
    have hmg : mg ("law" : PySem.Str) = some (.ref fa) := by
      have e : (HandSHeadRun.topDef (OpenLaw.row PySem.Challenge.rw_reachbook_k09_whole_plain_ties).prog 80).name = ("law" : PySem.Str) := by kernel_rfl
      rw [← e]
      exact hmg0
    exact RB.law_facts Y G hmg
