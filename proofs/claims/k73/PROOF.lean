import PyProof.Rows.All
import Wide.All
import OpenK.AllK
import Wide.FinOn
import KE.SortData
import HandS.ForMost
import HandS.Exc
import HandS.TryOnly
import HandS.ExcOwn
import HandS.WordsExc
import HandS.Conv
import HandS.TupAny
import HandS.IsInst
import HandS.ExcIs
import HandS.Style
import PySem.Challenge.RW_glasslayers_k73_sunk_in_the_glass
import HandS.Codes
set_option Elab.async false
set_option linter.all false
set_option maxRecDepth 100000
set_option maxHeartbeats 4000000
/-! G0: the plain law. Panes, trees, what they show, when they meet, how one sinks. No program here. -/
namespace GL
open PySem PySem.W PyProof.Rows

abbrev Way := List Str
abbrev Thing := Str × Str
abbrev Ent := Way × Thing
abbrev FILE : Str := "file"
abbrev LINK : Str := "link"
abbrev FOLDER : Str := "folder"
abbrev GONE : Str := "gone"
abbrev SHUT : Str := "shut"

theorem file_ne_shut : ¬ (FILE = SHUT) := by decide +kernel
theorem file_ne_folder : ¬ (FILE = FOLDER) := by decide +kernel
theorem link_ne_shut : ¬ (LINK = SHUT) := by decide +kernel
theorem link_ne_folder : ¬ (LINK = FOLDER) := by decide +kernel
theorem gone_ne_shut : ¬ (GONE = SHUT) := by decide +kernel
theorem gone_ne_folder : ¬ (GONE = FOLDER) := by decide +kernel
theorem shut_ne_folder : ¬ (SHUT = FOLDER) := by decide +kernel
theorem gone_ne_file : ¬ (GONE = FILE) := by decide +kernel
theorem gone_ne_link : ¬ (GONE = LINK) := by decide +kernel

/-! ### as data, the order -/
def wD (w : Way) : PyData := .tuple (w.map .str)
def eD (e : Ent) : PyData := .tuple [wD e.1, .str e.2.1, .str e.2.2]
def wle (a b : Way) : Bool := dataLe false wD a b
def ele (a b : Ent) : Bool := dataLe false eD a b
/-- entries by their ways -/
def ewle (a b : Ent) : Bool := wle a.1 b.1

theorem alike_strs : ∀ xs ys : List Str, alikeAll (xs.map PyData.str) (ys.map PyData.str) = true
  | [], _ => by simp [alikeAll]
  | _ :: _, [] => by simp [alikeAll]
  | x :: xs, y :: ys => by
    show alikeAll (.str x :: xs.map .str) (.str y :: ys.map .str) = true
    rw [alikeAll, alike_strs xs ys]
    simp [alike]
theorem alike_w (a b : Way) : alike (wD a) (wD b) = true := by
  unfold wD
  rw [alike]
  exact alike_strs a b
theorem alike_e (a b : Ent) : alike (eD a) (eD b) = true := by
  unfold eD
  rw [alike, alikeAll, alike_w, alikeAll, alikeAll, alikeAll]
  simp [alike]

theorem eqv_strs : ∀ xs ys : List Str, PyData.eqvAll (xs.map PyData.str) (ys.map PyData.str) = decide (xs = ys)
  | [], [] => by simp [PyData.eqvAll]
  | [], y :: ys => by simp [PyData.eqvAll]
  | x :: xs, [] => by simp [PyData.eqvAll]
  | x :: xs, y :: ys => by
    show PyData.eqvAll (.str x :: xs.map .str) (.str y :: ys.map .str) = _
    rw [eqv_all_cons, eqv_strs xs ys]
    by_cases h1 : x = y <;> by_cases h2 : xs = ys <;> simp [PyData.eqv, h1, h2]
theorem eqv_w (a b : Way) : PyData.eqv (wD a) (wD b) = decide (a = b) := by
  unfold wD
  rw [PyData.eqv]
  exact eqv_strs a b

theorem wle_total : TotalLe wle := sortLe_total (listOrd itemOrd) false fun b => keyToks (wD b)
theorem ewle_total : TotalLe ewle := ⟨fun a b c h1 h2 => wle_total.trans a.1 b.1 c.1 h1 h2, fun a b => wle_total.total a.1 b.1⟩

theorem wle_eq (a b : Way) : wle a b = !dataLt (wD b) (wD a) := rfl
theorem ele_eq (a b : Ent) : ele a b = !dataLt (eD b) (eD a) := rfl

theorem toks_w {a b : Way} (h : keyToks (wD a) = keyToks (wD b)) : a = b := by
  have q := toks_eqv (wD a) (wD b) (alike_w a b)
  cases e : PyData.eqv (wD a) (wD b) with
  | true =>
    rw [eqv_w] at e
    exact of_decide_eq_true e
  | false =>
    exfalso
    have s := q.2 e
    have t1 := s [Sum.inl 0] [Sum.inl 1]
    have t2 := s [Sum.inl 1] [Sum.inl 0]
    rw [h, lex_pre, lex_irrefl] at t1
    exact absurd t1 (by rw [lex_one]; decide)
theorem wle_antisymm {a b : Way} (h1 : wle a b = true) (h2 : wle b a = true) : a = b := by
  rw [wle_eq, Bool.not_eq_true'] at h1 h2
  unfold dataLt at h1 h2
  exact toks_w (lex_total _ _ h2 h1)
theorem wle_refl (a : Way) : wle a a = true := wle_total.refl a

/-- entries of unlike ways are ordered by them -/
theorem ele_of_ne {a b : Ent} (h : a.1 ≠ b.1) : ele a b = ewle a b := by
  unfold ewle
  rw [ele_eq, wle_eq]
  congr 1
  unfold eD
  rw [dataLt_tuple, dataLt_all_no (alike_w _ _)]
  rw [eqv_w]
  exact decide_eq_false fun q => h q.symm
theorem ele_refl (a : Ent) : ele a a = true := by
  rw [ele_eq, Bool.not_eq_true']
  unfold dataLt
  exact lex_irrefl _

/-- sorted whole, or by their ways: the same, where no way stands twice -/
theorem sort_ents {l : List Ent} (nd : (l.map (·.1)).Nodup) : l.mergeSort ele = l.mergeSort ewle := by
  refine sort_congr fun a ha b hb => ?_
  by_cases h : a.1 = b.1
  · have e : a = b := by
      obtain ⟨i, hi, ei⟩ := List.getElem_of_mem ha
      obtain ⟨j, hj, ej⟩ := List.getElem_of_mem hb
      have q : i = j := by
        refine (List.getElem_inj (h₀ := by rw [List.length_map]; exact hi) (h₁ := by rw [List.length_map]; exact hj) nd).mp ?_
        rw [List.getElem_map, List.getElem_map, ei, ej]
        exact h
      subst q
      rw [← ei, ← ej]
    subst e
    rw [ele_refl]
    exact (ewle_total.refl a).symm
  · exact ele_of_ne h

/-- two lists without a way twice, of the same entries: sorted they are one -/
theorem sort_same {l m : List Ent} (hl : (l.map (·.1)).Nodup) (hm : (m.map (·.1)).Nodup) (h : ∀ e, e ∈ l ↔ e ∈ m) : l.mergeSort ewle = m.mergeSort ewle := by
  refine sort_unique ewle_total (sort_pairwise ewle_total l) fun c => ?_
  rw [sort_stable ewle_total]
  have one : ∀ {l : List Ent}, (l.map (·.1)).Nodup → ∀ e, e ∈ l.filter (sameRank ewle c) → l.filter (sameRank ewle c) = [e] := by
    intro l hl e he
    have hn : ((l.filter (sameRank ewle c)).map (·.1)).Nodup := hl.sublist (List.Sublist.map _ List.filter_sublist)
    have hc : ∀ f ∈ l.filter (sameRank ewle c), f.1 = c.1 := by
      intro f hf
      have q := (List.mem_filter.mp hf).2
      unfold sameRank at q
      rw [Bool.and_eq_true] at q
      exact wle_antisymm q.2 q.1
    cases q : l.filter (sameRank ewle c) with
    | nil => rw [q] at he; cases he
    | cons x r =>
      cases r with
      | nil =>
        rw [q] at he
        rw [List.mem_singleton.mp he]
      | cons y r =>
        exfalso
        rw [q] at hn hc
        have e1 := hc x (by simp)
        have e2 := hc y (by simp)
        rw [List.map_cons, List.map_cons, e1, e2] at hn
        exact (List.nodup_cons.mp hn).1 (by simp)
  cases q : l.filter (sameRank ewle c) with
  | nil =>
    cases r : m.filter (sameRank ewle c) with
    | nil => rfl
    | cons x t =>
      exfalso
      have hx : x ∈ m.filter (sameRank ewle c) := by rw [r]; simp
      have hx' : x ∈ l.filter (sameRank ewle c) := List.mem_filter.mpr ⟨(h x).mpr (List.mem_filter.mp hx).1, (List.mem_filter.mp hx).2⟩
      rw [q] at hx'
      cases hx'
  | cons x t =>
    have hx : x ∈ l.filter (sameRank ewle c) := by rw [q]; simp
    have hx' : x ∈ m.filter (sameRank ewle c) := List.mem_filter.mpr ⟨(h x).mp (List.mem_filter.mp hx).1, (List.mem_filter.mp hx).2⟩
    rw [← q, one hl x hx, one hm x hx']

/-! ### tables -/
def look {T : Type} (es : List (Way × T)) (w : Way) : Option T := (es.find? fun e => decide (e.1 = w)).map (·.2)
theorem look_nil {T : Type} (w : Way) : look ([] : List (Way × T)) w = none := rfl
theorem look_cons {T : Type} (e : Way × T) (es : List (Way × T)) (w : Way) : look (e :: es) w = if e.1 = w then some e.2 else look es w := by
  unfold look
  rw [List.find?_cons]
  by_cases h : e.1 = w
  · simp [h]
  · simp [h]
theorem look_mem {T : Type} {es : List (Way × T)} {w : Way} {t : T} (h : look es w = some t) : (w, t) ∈ es := by
  induction es with
  | nil => cases h
  | cons e es ih =>
    rw [look_cons] at h
    by_cases q : e.1 = w
    · rw [if_pos q] at h
      have := Option.some.inj h
      obtain ⟨a, b⟩ := e
      dsimp only at q this
      rw [← q, ← this]
      exact List.mem_cons_self
    · rw [if_neg q] at h
      exact List.mem_cons_of_mem _ (ih h)
theorem look_of {T : Type} {es : List (Way × T)} (nd : (es.map (·.1)).Nodup) {e : Way × T} (h : e ∈ es) : look es e.1 = some e.2 := by
  induction es with
  | nil => cases h
  | cons f es ih =>
    rw [List.map_cons, List.nodup_cons] at nd
    rw [look_cons]
    rcases List.mem_cons.mp h with rfl | h
    · rw [if_pos rfl]
    · rw [if_neg, ih nd.2 h]
      intro q
      exact nd.1 (q ▸ List.mem_map_of_mem h)
theorem look_none {T : Type} {es : List (Way × T)} {w : Way} : look es w = none ↔ ∀ e ∈ es, e.1 ≠ w := by
  induction es with
  | nil => simp [look_nil]
  | cons f es ih =>
    rw [look_cons]
    by_cases q : f.1 = w
    · rw [if_pos q]
      exact ⟨fun z => (by cases z), fun z => absurd q (z f List.mem_cons_self)⟩
    · rw [if_neg q, ih]
      refine ⟨fun z e he => ?_, fun z e he => z e (List.mem_cons_of_mem _ he)⟩
      rcases List.mem_cons.mp he with rfl | he
      · exact q
      · exact z e he
theorem look_some_of_mem {T : Type} {es : List (Way × T)} {e : Way × T} (h : e ∈ es) : ∃ t, look es e.1 = some t := by
  cases q : look es e.1 with
  | some t => exact ⟨t, rfl⟩
  | none => exact absurd rfl (look_none.mp q e h)
theorem look_append {T : Type} (es fs : List (Way × T)) (w : Way) : look (es ++ fs) w = (look es w).or (look fs w) := by
  induction es with
  | nil => simp [look_nil]
  | cons e es ih =>
    rw [List.cons_append, look_cons, look_cons, ih]
    by_cases q : e.1 = w
    · rw [if_pos q, if_pos q]; rfl
    · rw [if_neg q, if_neg q]

/-! ### what a pane shows -/
/-- whether another mark than folder stands above a way -/
def covM (es : List Ent) (w : Way) : Bool := (List.range w.length).any fun k => match look es (w.take k) with
  | some t => !decide (t.1 = FOLDER)
  | none => false
def shownM (e : Ent) : Option Ent := if e.2.1 = FILE ∨ e.2.1 = LINK then some e else if e.2.1 = GONE ∨ e.1 = [] then none else some (e.1, (FOLDER, ""))
def keptM (p : List Ent) (e : Ent) : Bool := (look p e.1).isNone && !covM p e.1
def rowsM (p t : List Ent) : List Ent := t.filter (keptM p) ++ p.filterMap shownM
def laidM (p t : List Ent) : List Ent := (rowsM p t).mergeSort ewle
def seenM (ps : List (List Ent)) : List Ent := ps.foldl (fun t p => laidM p t) []

theorem covM_iff {es : List Ent} {w : Way} : covM es w = true ↔ ∃ k, k < w.length ∧ ∃ t, look es (w.take k) = some t ∧ t.1 ≠ FOLDER := by
  unfold covM
  rw [List.any_eq_true]
  constructor
  · rintro ⟨k, hk, h⟩
    refine ⟨k, List.mem_range.mp hk, ?_⟩
    cases q : look es (w.take k) with
    | none => rw [q] at h; cases h
    | some t =>
      rw [q] at h
      exact ⟨t, rfl, by simpa using h⟩
  · rintro ⟨k, hk, t, q, h⟩
    refine ⟨k, List.mem_range.mpr hk, ?_⟩
    rw [q]
    simpa using h

theorem shown_way {e f : Ent} (h : shownM e = some f) : f.1 = e.1 := by
  unfold shownM at h
  split at h
  · cases h; rfl
  · split at h
    · cases h
    · cases h; rfl

theorem rows_nd {p t : List Ent} (hp : (p.map (·.1)).Nodup) (ht : (t.map (·.1)).Nodup) : ((rowsM p t).map (·.1)).Nodup := by
  unfold rowsM
  rw [List.map_append, List.nodup_append]
  refine ⟨ht.sublist (List.Sublist.map _ List.filter_sublist), ?_, ?_⟩
  · induction p with
    | nil => simp
    | cons e p ih =>
      rw [List.map_cons, List.nodup_cons] at hp
      rw [List.filterMap_cons]
      cases q : shownM e with
      | none => exact ih hp.2
      | some f =>
        dsimp only
        rw [List.map_cons, List.nodup_cons]
        refine ⟨fun z => hp.1 ?_, ih hp.2⟩
        obtain ⟨g, hg, eg⟩ := List.mem_map.mp z
        obtain ⟨e', he', q'⟩ := List.mem_filterMap.mp hg
        rw [← shown_way q, ← eg, shown_way q']
        exact List.mem_map_of_mem he'
  · intro a ha b hb hab
    obtain ⟨e, he, rfl⟩ := List.mem_map.mp ha
    obtain ⟨f, hf, rfl⟩ := List.mem_map.mp hb
    have k := (List.mem_filter.mp he).2
    unfold keptM at k
    rw [Bool.and_eq_true] at k
    have kn : look p e.1 = none := by simpa using k.1
    obtain ⟨g, hg, q⟩ := List.mem_filterMap.mp hf
    exact look_none.mp kn g hg (by rw [← shown_way q, hab])
theorem sort_nd {l : List Ent} (h : (l.map (·.1)).Nodup) : ((l.mergeSort ewle).map (·.1)).Nodup := ((List.mergeSort_perm l ewle).map _).nodup_iff.mpr h
theorem laid_nd {p t : List Ent} (hp : (p.map (·.1)).Nodup) (ht : (t.map (·.1)).Nodup) : ((laidM p t).map (·.1)).Nodup := sort_nd (rows_nd hp ht)
theorem mem_laid {p t : List Ent} {e : Ent} : e ∈ laidM p t ↔ (e ∈ t ∧ keptM p e = true) ∨ ∃ f ∈ p, shownM f = some e := by
  unfold laidM rowsM
  rw [(List.mergeSort_perm _ ewle).mem_iff, List.mem_append, List.mem_filter, List.mem_filterMap]
theorem laid_length (p t : List Ent) : (laidM p t).length ≤ t.length + p.length := by
  unfold laidM rowsM
  rw [(List.mergeSort_perm _ ewle).length_eq, List.length_append]
  exact Nat.add_le_add (List.length_filter_le ..) (List.length_filterMap_le ..)
theorem rows_length (p t : List Ent) : (rowsM p t).length ≤ t.length + p.length := by
  unfold rowsM
  rw [List.length_append]
  exact Nat.add_le_add (List.length_filter_le ..) (List.length_filterMap_le ..)

/-! ### panes that meet -/
def joinsM (m : Str) : Bool := decide (m = FOLDER) || decide (m = SHUT)
structure PaneOk (es : List Ent) : Prop where
  nd : (es.map (·.1)).Nodup
  root : ∀ e ∈ es, e.1 = [] → e.2.1 = SHUT
  up : ∀ e ∈ es, ∀ k, 0 < k → k < e.1.length → ∃ t, look es (e.1.take k) = some t ∧ joinsM t.1 = true
  short : ∀ e ∈ es, e.1.length ≤ 100
  few : es.length ≤ 5

/-- the shortest way above w at which shut stands -/
def shutM (es : List Ent) (w : Way) : Option Way := (List.range w.length).findSome? fun k => match look es (w.take k) with
  | some t => if t.1 = SHUT then some (w.take k) else none
  | none => none
def hungM (A B : List Ent) (w : Way) : Option (Way × Way) := match look A w, look B w with
  | some a, some b => if a = b ∨ (joinsM a.1 = true ∧ joinsM b.1 = true) then none else some (w, w)
  | some a, none => match shutM B w with
    | none => none
    | some o => if a.1 = GONE then none else some (w, o)
  | none, some b => match shutM A w with
    | none => none
    | some o => if b.1 = GONE then none else some (o, w)
  | none, none => none
def waysM (A B : List Ent) : List Way := (A.map (·.1) ++ B.map (·.1)).mergeSort wle
def entM (A : List Ent) (w : Way) : Ent := (w, (look A w).getD ("", ""))
def meetM (A B : List Ent) : Option (Ent × Ent) := (waysM A B).findSome? fun w => (hungM A B w).map fun h => (entM A h.1, entM B h.2)

theorem shutM_none {es : List Ent} {w : Way} (h : shutM es w = none) : ∀ k, k < w.length → ∀ t, look es (w.take k) = some t → t.1 ≠ SHUT := by
  intro k hk t q e
  have z := List.findSome?_eq_none_iff.mp h k (List.mem_range.mpr hk)
  rw [q] at z
  dsimp only at z
  rw [if_pos e] at z
  cases z
theorem shutM_some {es : List Ent} {w o : Way} (h : shutM es w = some o) : ∃ t, look es o = some t := by
  obtain ⟨k, hk, z⟩ := List.exists_of_findSome?_eq_some h
  cases q : look es (w.take k) with
  | none => rw [q] at z; cases z
  | some t =>
    rw [q] at z
    dsimp only at z
    split at z
    · cases z; exact ⟨t, q⟩
    · cases z
theorem hungM_some {A B : List Ent} {w : Way} {x y : Way} (h : hungM A B w = some (x, y)) : (∃ t, look A x = some t) ∧ ∃ t, look B y = some t := by
  unfold hungM at h
  cases qa : look A w with
  | none =>
    cases qb : look B w with
    | none => rw [qa, qb] at h; cases h
    | some b =>
      rw [qa, qb] at h
      dsimp only at h
      cases qs : shutM A w with
      | none => rw [qs] at h; cases h
      | some o =>
        rw [qs] at h
        dsimp only at h
        split at h
        · cases h
        · cases h; exact ⟨shutM_some qs, b, qb⟩
  | some a =>
    cases qb : look B w with
    | some b =>
      rw [qa, qb] at h
      dsimp only at h
      split at h
      · cases h
      · cases h; exact ⟨⟨a, qa⟩, b, qb⟩
    | none =>
      rw [qa, qb] at h
      dsimp only at h
      cases qs : shutM B w with
      | none => rw [qs] at h; cases h
      | some o =>
        rw [qs] at h
        dsimp only at h
        split at h
        · cases h
        · cases h; exact ⟨⟨a, qa⟩, shutM_some qs⟩

theorem meet_none {A B : List Ent} (h : meetM A B = none) {w : Way} (hw : (∃ t, look A w = some t) ∨ ∃ t, look B w = some t) : hungM A B w = none := by
  have z := List.findSome?_eq_none_iff.mp h w (by
    unfold waysM
    rw [(List.mergeSort_perm _ wle).mem_iff, List.mem_append]
    rcases hw with ⟨t, q⟩ | ⟨t, q⟩
    · exact .inl (List.mem_map.mpr ⟨(w, t), look_mem q, rfl⟩)
    · exact .inr (List.mem_map.mpr ⟨(w, t), look_mem q, rfl⟩))
  exact Option.map_eq_none_iff.mp z

/-- what a pane says of a way: none where it is silent -/
def saysM (p : List Ent) (w : Way) : Option (Option Ent) := match look p w with
  | some t => some (shownM (w, t))
  | none => if covM p w = true then some none else none

theorem kept_iff {p : List Ent} {e : Ent} : keptM p e = true ↔ saysM p e.1 = none := by
  unfold keptM saysM
  cases q : look p e.1 with
  | some t => simp
  | none =>
    cases c : covM p e.1 with
    | true => simp
    | false => simp
theorem shown_iff {p : List Ent} (nd : (p.map (·.1)).Nodup) {e : Ent} : (∃ f ∈ p, shownM f = some e) ↔ saysM p e.1 = some (some e) := by
  unfold saysM
  constructor
  · rintro ⟨f, hf, q⟩
    have hw := shown_way q
    rw [hw, look_of nd hf]
    dsimp only
    rw [← q]
  · intro h
    cases q : look p e.1 with
    | some t =>
      rw [q] at h
      exact ⟨(e.1, t), look_mem q, Option.some.inj h⟩
    | none =>
      rw [q] at h
      dsimp only at h
      split at h
      · cases h
      · cases h
theorem mem_laid' {p t : List Ent} (nd : (p.map (·.1)).Nodup) {e : Ent} : e ∈ laidM p t ↔ (e ∈ t ∧ saysM p e.1 = none) ∨ saysM p e.1 = some (some e) := by
  rw [mem_laid, kept_iff, shown_iff nd]

/-- one side of it: an entry of A below something of B that is no folder -/
theorem agree_side {A B : List Ent} (hA : PaneOk A) (hB : PaneOk B) (hu : ∀ w, (∃ t, look A w = some t) ∨ (∃ t, look B w = some t) → (∀ a b, look A w = some a → look B w = some b → a = b ∨ (joinsM a.1 = true ∧ joinsM b.1 = true)) ∧
      (∀ a, look A w = some a → look B w = none → shutM B w = none ∨ a.1 = GONE))
    {w : Way} {a : Thing} (qa : look A w = some a) (qb : look B w = none) (hc : covM B w = true) : shownM (w, a) = none := by
  obtain ⟨k, hk, t, qt, nt⟩ := covM_iff.mp hc
  have hgone : a.1 = GONE := by
    rcases (hu w (.inl ⟨a, qa⟩)).2 a qa qb with h | h
    · exfalso
      by_cases k0 : k = 0
      · subst k0
        have hr := hB.root _ (look_mem qt) (by simp)
        exact shutM_none h 0 hk t qt hr
      · obtain ⟨ta, qta, ja⟩ := hA.up _ (look_mem qa) k (Nat.pos_of_ne_zero k0) hk
        dsimp only at qta
        rcases (hu (w.take k) (.inl ⟨ta, qta⟩)).1 ta t qta qt with e | ⟨_, jb⟩
        · subst e
          unfold joinsM at ja
          rw [Bool.or_eq_true] at ja
          rcases ja with ja | ja
          · exact nt (of_decide_eq_true ja)
          · exact shutM_none h k hk ta qt (of_decide_eq_true ja)
        · unfold joinsM at jb
          rw [Bool.or_eq_true] at jb
          rcases jb with jb | jb
          · exact nt (of_decide_eq_true jb)
          · exact shutM_none h k hk t qt (of_decide_eq_true jb)
    · exact h
  unfold shownM
  dsimp only
  rw [hgone, if_neg (by rintro (q | q); exact gone_ne_file q; exact gone_ne_link q), if_pos (.inl rfl)]

theorem says_agree {A B : List Ent} (hA : PaneOk A) (hB : PaneOk B) (h : meetM A B = none) {w : Way} {x y : Option Ent} (hx : saysM A w = some x) (hy : saysM B w = some y) : x = y := by
  have hu : ∀ w, (∃ t, look A w = some t) ∨ (∃ t, look B w = some t) → (∀ a b, look A w = some a → look B w = some b → a = b ∨ (joinsM a.1 = true ∧ joinsM b.1 = true)) ∧
      (∀ a, look A w = some a → look B w = none → shutM B w = none ∨ a.1 = GONE) := by
    intro w hw
    have q := meet_none h hw
    unfold hungM at q
    refine ⟨fun a b qa qb => ?_, fun a qa qb => ?_⟩
    · rw [qa, qb] at q
      dsimp only at q
      by_cases z : a = b ∨ (joinsM a.1 = true ∧ joinsM b.1 = true)
      · exact z
      · rw [if_neg z] at q; cases q
    · rw [qa, qb] at q
      dsimp only at q
      cases qs : shutM B w with
      | none => exact .inl rfl
      | some o =>
        rw [qs] at q
        dsimp only at q
        by_cases z : a.1 = GONE
        · exact .inr z
        · rw [if_neg z] at q; cases q
  have hv : ∀ w, (∃ t, look B w = some t) ∨ (∃ t, look A w = some t) → (∀ a b, look B w = some a → look A w = some b → a = b ∨ (joinsM a.1 = true ∧ joinsM b.1 = true)) ∧
      (∀ a, look B w = some a → look A w = none → shutM A w = none ∨ a.1 = GONE) := by
    intro w hw
    refine ⟨fun a b qa qb => ?_, fun a qa qb => ?_⟩
    · rcases (hu w (.inr ⟨a, qa⟩)).1 b a qb qa with z | ⟨z1, z2⟩
      · exact .inl z.symm
      · exact .inr ⟨z2, z1⟩
    · have q := meet_none h (w := w) (.inr ⟨a, qa⟩)
      unfold hungM at q
      rw [qa, qb] at q
      dsimp only at q
      cases qs : shutM A w with
      | none => exact .inl rfl
      | some o =>
        rw [qs] at q
        dsimp only at q
        by_cases z : a.1 = GONE
        · exact .inr z
        · rw [if_neg z] at q; cases q
  unfold saysM at hx hy
  cases qa : look A w with
  | some a =>
    rw [qa] at hx
    cases hx
    cases qb : look B w with
    | some b =>
      rw [qb] at hy
      cases hy
      rcases (hu w (.inl ⟨a, qa⟩)).1 a b qa qb with e | ⟨ja, jb⟩
      · rw [e]
      · have nofl : ∀ {m : Str}, joinsM m = true → ¬ (m = FILE ∨ m = LINK) ∧ ¬ m = GONE := by
          intro m hm
          unfold joinsM at hm
          rw [Bool.or_eq_true] at hm
          refine ⟨?_, ?_⟩
          · rintro (z | z) <;> subst z <;> rcases hm with hm | hm
            · exact file_ne_folder (of_decide_eq_true hm)
            · exact file_ne_shut (of_decide_eq_true hm)
            · exact link_ne_folder (of_decide_eq_true hm)
            · exact link_ne_shut (of_decide_eq_true hm)
          · intro z
            subst z
            rcases hm with hm | hm
            · exact gone_ne_folder (of_decide_eq_true hm)
            · exact gone_ne_shut (of_decide_eq_true hm)
        unfold shownM
        dsimp only
        rw [if_neg (nofl ja).1, if_neg (nofl jb).1]
        by_cases hw : w = []
        · rw [if_pos (.inr hw), if_pos (.inr hw)]
        · rw [if_neg (by rintro (z | z); exact (nofl ja).2 z; exact hw z), if_neg (by rintro (z | z); exact (nofl jb).2 z; exact hw z)]
    | none =>
      rw [qb] at hy
      dsimp only at hy
      by_cases c : covM B w = true
      · rw [if_pos c] at hy
        cases hy
        exact agree_side hA hB hu qa qb c
      · rw [if_neg c] at hy; cases hy
  | none =>
    rw [qa] at hx
    dsimp only at hx
    by_cases ca : covM A w = true
    · rw [if_pos ca] at hx
      cases hx
      cases qb : look B w with
      | some b =>
        rw [qb] at hy
        cases hy
        exact (agree_side hB hA hv qb qa ca).symm
      | none =>
        rw [qb] at hy
        dsimp only at hy
        by_cases c : covM B w = true
        · rw [if_pos c] at hy; cases hy; rfl
        · rw [if_neg c] at hy; cases hy
    · rw [if_neg ca] at hx; cases hx

/-- two panes that do not meet show the same in either order -/
theorem laid_swap {A B t : List Ent} (hA : PaneOk A) (hB : PaneOk B) (ht : (t.map (·.1)).Nodup) (h : meetM A B = none) : laidM A (laidM B t) = laidM B (laidM A t) := by
  have n1 := laid_nd hB.nd ht
  have n2 := laid_nd hA.nd ht
  have key : ∀ e, e ∈ laidM A (laidM B t) ↔ e ∈ laidM B (laidM A t) := by
    intro e
    rw [mem_laid' hA.nd, mem_laid' hB.nd, mem_laid' hB.nd, mem_laid' hA.nd]
    cases qa : saysM A e.1 with
    | none =>
      cases qb : saysM B e.1 with
      | none => simp
      | some y => simp
    | some x =>
      cases qb : saysM B e.1 with
      | none => simp
      | some y =>
        have := says_agree hA hB h qa qb
        subst this
        simp
  show (rowsM A (laidM B t)).mergeSort ewle = (rowsM B (laidM A t)).mergeSort ewle
  refine sort_same (rows_nd hA.nd n1) (rows_nd hB.nd n2) fun e => ?_
  rw [← (List.mergeSort_perm (rowsM A (laidM B t)) ewle).mem_iff, ← (List.mergeSort_perm (rowsM B (laidM A t)) ewle).mem_iff]
  exact key e

/-! ### one pane sunk -/
def sinkM : Nat → List (List Ent) → List (List Ent) × Nat × Option (Ent × Ent)
  | 0, rows => (rows, 0, none)
  | k + 1, rows => match meetM (rows.getD (k + 1) []) (rows.getD k []) with
    | some p => (rows, k + 1, some p)
    | none => sinkM k ((rows.set (k + 1) (rows.getD k [])).set k (rows.getD (k + 1) []))

theorem seen_nd : ∀ (ps : List (List Ent)) (t : List Ent), (∀ p ∈ ps, PaneOk p) → (t.map (·.1)).Nodup → ((ps.foldl (fun t p => laidM p t) t).map (·.1)).Nodup
  | [], _, _, ht => ht
  | p :: ps, t, hp, ht => seen_nd ps (laidM p t) (fun q hq => hp q (List.mem_cons_of_mem _ hq)) (laid_nd (hp p List.mem_cons_self).nd ht)
theorem seen_length : ∀ (ps : List (List Ent)) (t : List Ent) (n : Nat), (∀ p ∈ ps, p.length ≤ n) → (ps.foldl (fun t p => laidM p t) t).length ≤ t.length + ps.length * n
  | [], t, n, _ => by simp
  | p :: ps, t, n, hp => by
    have h1 := seen_length ps (laidM p t) n fun q hq => hp q (List.mem_cons_of_mem _ hq)
    have h2 := laid_length p t
    have h3 := hp p List.mem_cons_self
    rw [List.foldl_cons, List.length_cons, Nat.succ_mul]
    omega
/-- two neighbours that do not meet exchanged -/
theorem seen_swap {pre post : List (List Ent)} {A B : List Ent} (hp : ∀ p ∈ pre, PaneOk p) (hA : PaneOk A) (hB : PaneOk B) (h : meetM A B = none) : seenM (pre ++ B :: A :: post) = seenM (pre ++ A :: B :: post) := by
  unfold seenM
  rw [List.foldl_append, List.foldl_append]
  show post.foldl _ (laidM A (laidM B _)) = post.foldl _ (laidM B (laidM A _))
  rw [laid_swap hA hB (seen_nd pre [] hp (by simp)) h]

/-- the list behind: the pane that stood at k stands at low, those that it passed have come up by one -/
def movedM (ps : List (List Ent)) (k low : Nat) : List (List Ent) := ps.take low ++ [ps.getD k []] ++ (ps.take k).drop low ++ ps.drop (k + 1)

structure SunkOk (ps : List (List Ent)) (k : Nat) (r : List (List Ent) × Nat × Option (Ent × Ent)) : Prop where
  low : r.2.1 ≤ k
  rows : r.1 = movedM ps k r.2.1
  past : ∀ j, r.2.1 ≤ j → j < k → meetM (ps.getD k []) (ps.getD j []) = none
  pair0 : r.2.1 = 0 → r.2.2 = none
  pair1 : ∀ j, r.2.1 = j + 1 → r.2.2 = meetM (ps.getD k []) (ps.getD j []) ∧ r.2.2.isSome = true
  same : (∀ p ∈ ps, PaneOk p) → seenM r.1 = seenM ps

theorem moved_self {ps : List (List Ent)} {k : Nat} (hk : k < ps.length) : movedM ps k k = ps := by
  unfold movedM
  have e1 : (ps.take k).drop k = [] := List.drop_eq_nil_of_le (by rw [List.length_take]; omega)
  rw [e1, List.append_nil, List.getD_eq_getElem?_getD, List.getElem?_eq_getElem hk, Option.getD_some, List.append_assoc, List.singleton_append, ← List.drop_eq_getElem_cons hk, List.take_append_drop]

/-- a list split at two neighbours -/
theorem split2 {ps : List (List Ent)} {k : Nat} (hk : k + 1 < ps.length) : ps = ps.take k ++ ps.getD k [] :: ps.getD (k + 1) [] :: ps.drop (k + 2) := by
  have h0 : k < ps.length := by omega
  rw [List.getD_eq_getElem?_getD, List.getElem?_eq_getElem h0, List.getD_eq_getElem?_getD, List.getElem?_eq_getElem hk, Option.getD_some, Option.getD_some, ← List.drop_eq_getElem_cons hk, ← List.drop_eq_getElem_cons h0, List.take_append_drop]
theorem swap2 {ps : List (List Ent)} {k : Nat} (hk : k + 1 < ps.length) : (ps.set (k + 1) (ps.getD k [])).set k (ps.getD (k + 1) []) = ps.take k ++ ps.getD (k + 1) [] :: ps.getD k [] :: ps.drop (k + 2) := by
  have h0 : k < ps.length := by omega
  apply List.ext_getElem?
  intro i
  rw [List.getElem?_set, List.getElem?_set, List.length_set]
  have ht : (ps.take k).length = k := by rw [List.length_take]; omega
  by_cases h1 : k = i
  · subst h1
    rw [if_pos rfl, if_pos h0, List.getElem?_append_right (by omega), ht, Nat.sub_self]
    rfl
  · rw [if_neg h1]
    by_cases h2 : k + 1 = i
    · subst h2
      rw [if_pos rfl, if_pos hk, List.getElem?_append_right (by omega), ht]
      have : k + 1 - k = 1 := by omega
      rw [this]
      rfl
    · rw [if_neg h2]
      by_cases h3 : i < k
      · rw [List.getElem?_append_left (by omega), List.getElem?_take_of_lt h3]
      · rw [List.getElem?_append_right (by omega), ht]
        obtain ⟨d, rfl⟩ : ∃ d, i = k + 2 + d := ⟨i - (k + 2), by omega⟩
        have : k + 2 + d - k = d + 2 := by omega
        rw [this, List.getElem?_cons_succ, List.getElem?_cons_succ, List.getElem?_drop]

theorem sink_ok : ∀ (k : Nat) (ps : List (List Ent)), k < ps.length → SunkOk ps k (sinkM k ps)
  | 0, ps, hk => by
    unfold sinkM
    exact ⟨Nat.le_refl _, (moved_self hk).symm, fun j h1 h2 => by omega, fun _ => rfl, fun j h => (by cases h), fun _ => rfl⟩
  | k + 1, ps, hk => by
    unfold sinkM
    have h0 : k < ps.length := by omega
    cases q : meetM (ps.getD (k + 1) []) (ps.getD k []) with
    | some p =>
      dsimp only
      refine ⟨Nat.le_refl _, (moved_self hk).symm, fun j h1 h2 => by dsimp only at h1; omega, fun h => (by cases h), fun j h => ?_, fun _ => rfl⟩
      have e : j = k := by dsimp only at h; omega
      subst e
      exact ⟨q.symm, rfl⟩
    | none =>
      dsimp only
      have hl : k < ((ps.set (k + 1) (ps.getD k [])).set k (ps.getD (k + 1) [])).length := by rw [List.length_set, List.length_set]; exact h0
      have ih := sink_ok k _ hl
      generalize hs : (ps.set (k + 1) (ps.getD k [])).set k (ps.getD (k + 1) []) = qs at ih hl ⊢
      have eq : qs = ps.take k ++ ps.getD (k + 1) [] :: ps.getD k [] :: ps.drop (k + 2) := by rw [← hs]; exact swap2 hk
      have ht : (ps.take k).length = k := by rw [List.length_take]; omega
      have gk : qs.getD k [] = ps.getD (k + 1) [] := by
        rw [eq, List.getD_eq_getElem?_getD, List.getElem?_append_right (by omega), ht, Nat.sub_self]
        rfl
      have gj : ∀ j, j < k → qs.getD j [] = ps.getD j [] := by
        intro j hj
        rw [eq, List.getD_eq_getElem?_getD, List.getElem?_append_left (by omega), List.getElem?_take_of_lt hj, ← List.getD_eq_getElem?_getD]
      obtain ⟨hlow, hrows, hpast, hp0, hp1, hsame⟩ := ih
      refine ⟨by omega, ?_, fun j h1 h2 => ?_, hp0, fun j h => ?_, fun ok => ?_⟩
      · rw [hrows]
        generalize hlo : (sinkM k qs).2.1 = lo at hlow
        unfold movedM
        rw [gk]
        have t1 : qs.take lo = ps.take lo := by
          rw [eq, List.take_append_of_le_length (by omega), List.take_take, Nat.min_eq_left hlow]
        have t2 : qs.take k = ps.take k := by
          rw [eq, List.take_append_of_le_length (by omega), List.take_take, Nat.min_self]
        have t3 : qs.drop (k + 1) = ps.getD k [] :: ps.drop (k + 2) := by
          rw [eq, List.drop_append, ht]
          have e1 : (ps.take k).drop (k + 1) = [] := List.drop_eq_nil_of_le (by omega)
          have e2 : k + 1 - k = 1 := by omega
          rw [e1, e2]
          rfl
        have t4 : (ps.take (k + 1)).drop lo = (ps.take k).drop lo ++ [ps.getD k []] := by
          rw [List.take_succ, List.drop_append_of_le_length (by omega), List.getD_eq_getElem?_getD, List.getElem?_eq_getElem h0]
          rfl
        rw [t1, t2, t3, t4]
        simp
      · by_cases e : j = k
        · subst e
          exact q
        · have := hpast j h1 (by omega)
          rw [gk, gj j (by omega)] at this
          exact this
      · have hj : j < k := by
          have : (sinkM k qs).2.1 = j + 1 := h
          omega
        have := hp1 j h
        rw [gk, gj j hj] at this
        exact this
      · have okq : ∀ p ∈ qs, PaneOk p := by
          intro p hp
          rw [eq] at hp
          have hps := split2 hk
          refine ok p ?_
          rw [hps]
          simp only [List.mem_append, List.mem_cons] at hp ⊢
          rcases hp with h | h | h | h
          · exact .inl h
          · exact .inr (.inr (.inl h))
          · exact .inr (.inl h)
          · exact .inr (.inr (.inr h))
        rw [hsame okq, eq]
        have hps := split2 hk
        have m1 : PaneOk (ps.getD (k + 1) []) := ok _ (by rw [List.getD_eq_getElem?_getD, List.getElem?_eq_getElem hk]; exact List.getElem_mem hk)
        have m0 : PaneOk (ps.getD k []) := ok _ (by rw [List.getD_eq_getElem?_getD, List.getElem?_eq_getElem h0]; exact List.getElem_mem h0)
        have := seen_swap (pre := ps.take k) (post := ps.drop (k + 2)) (fun p hp => ok p (List.mem_of_mem_take hp)) m1 m0 q
        rw [← hps] at this
        exact this.symm
/-- the panes behind are those ahead -/
theorem sink_mem : ∀ (k : Nat) (ps : List (List Ent)), k < ps.length → ∀ p, p ∈ (sinkM k ps).1 → p ∈ ps
  | 0, ps, _, p, h => h
  | k + 1, ps, hk, p, h => by
    unfold sinkM at h
    have h0 : k < ps.length := by omega
    cases q : meetM (ps.getD (k + 1) []) (ps.getD k []) with
    | some x => rw [q] at h; exact h
    | none =>
      rw [q] at h
      dsimp only at h
      have := sink_mem k _ (by rw [List.length_set, List.length_set]; exact h0) p h
      rcases List.mem_or_eq_of_mem_set this with h | h
      · rcases List.mem_or_eq_of_mem_set h with h | h
        · exact h
        · rw [h, List.getD_eq_getElem?_getD, List.getElem?_eq_getElem h0]; exact List.getElem_mem h0
      · rw [h, List.getD_eq_getElem?_getD, List.getElem?_eq_getElem hk]; exact List.getElem_mem hk
theorem sink_length : ∀ (k : Nat) (ps : List (List Ent)), (sinkM k ps).1.length = ps.length
  | 0, ps => rfl
  | k + 1, ps => by
    unfold sinkM
    cases q : meetM (ps.getD (k + 1) []) (ps.getD k []) with
    | some x => rfl
    | none =>
      dsimp only
      rw [sink_length k, List.length_set, List.length_set]
end GL

/-! G1: rules that the layer lacks: sorted of tuples of texts (the empty tuple among them) and of entries; a method called in a try; isinstance of a caught error against a tuple of classes. -/
namespace GL
section
open PySem PySem.W PySem.Calls PyProof.Rows PySem.SeqAt
variable {prog : Program} {w : World} {A : Around} {E : Value → Shared → Prop} {s : Shared}
/-- the call of tuple's own __lt__, as sorting makes it -/
theorem call_tuple_lt {Q : Value → Shared → Prop} {l b : Addr} {items items2 : Array Value} {e r : Nat → Bool} (hl : s.heap.IsTuple l items) (hb : s.heap.IsTuple b items2)
    (he : ∀ j (h1 : j < items.size) (h2 : j < items2.size), EqAt A.in1 s items[j] items2[j] (e j)) (hr : ∀ j (h1 : j < items.size) (h2 : j < items2.size), e j = false → RcLt A.in1 s items[j] items2[j] (r j))
    (h : Q (.bool (firstLt e r (decide (items.size < items2.size)) (List.range (min items.size items2.size)))) s) : wpAny (model prog w) A (call (.builtin "tuple.__lt__") [.ref l, .ref b]) Q E s := by
  obtain ⟨⟨cls, dd, data, sl⟩, ho, hc, n, hd⟩ := id hl
  obtain ⟨⟨cls2, dd2, data2, sl2⟩, ho2, hc2, n2, hd2⟩ := id hb
  simp only at hc hd hc2 hd2
  subst hc hd hc2 hd2
  exact call_meets F.slot_tuple_lt ⟨_, ho, rfl⟩ F.entry_tuple_lt (F.args_tuple_lt_2 _ _) (tuple_ltAt l b items items2 n n2 dd dd2 sl sl2 e r) ⟨ho, ho2, he, hr, h⟩

/-- the first items of tuples, some of them empty -/
theorem firsts_any : ∀ (vs : List Value) (ds : List PyData) {Q : List (Option Value) → Shared → Prop}, EachIs (fun v d => ∃ as, Reads s.heap v d as) vs ds → (∀ d, d ∈ ds → ∃ r, d = .tuple r) →
    (∀ fs, EachIs (fun (f : Option Value) (d : PyData) => f.isSome = (match d with | .tuple r => !r.isEmpty | _ => false)) fs ds → Q fs s) → wpAny (model prog w) A (vs.mapM firstOfTuple') Q E s
  | _, _, _, .nil, _, h => by rw [List.mapM_nil]; exact wpAny_pure (h [] .nil)
  | _, _, Q, .cons (a := v) (as := vs) (b := d) (bs := ds) ⟨as, r⟩ t, ht, h => by
    obtain ⟨xs, rfl⟩ := ht d List.mem_cons_self
    cases r with
    | @tuple a o its n _ _ ho hc hd hr =>
      rw [List.mapM_cons]
      refine wpAny_bind ?_
      rw [kas_first_eq]
      refine wpAny_bind (Looks.here (show Looks (model prog w) s.heap (typeOf (.ref a)) o.cls from (Looks.ld ho).andThen .now) ?_)
      rw [hc, if_neg (by first | decide | simp)]
      refine wpAny_bind (listItems_at ho hd (wpAny_pure ?_))
      refine wpAny_bind (firsts_any vs ds (Q := fun bs s' => wpAny (model prog w) A (pure (its[0]? :: bs)) Q E s') t (fun d hd => ht d (List.mem_cons_of_mem _ hd)) fun fs e => wpAny_pure (h _ (.cons ?_ e)))
      have hl : its.size = xs.length := by simpa using SeqAt.ReadsAll.length _ _ _ hr
      dsimp only
      cases xs with
      | nil =>
        rw [Array.getElem?_eq_none (by rw [hl]; exact Nat.le_refl 0)]
        rfl
      | cons x r =>
        rw [Array.getElem?_eq_getElem (by rw [hl]; exact Nat.succ_pos _)]
        rfl
theorem each_all {fs : List (Option Value)} {ds : List PyData} (e : EachIs (fun (f : Option Value) (d : PyData) => f.isSome = (match d with | .tuple r => !r.isEmpty | _ => false)) fs ds) (d : PyData) (hd : d ∈ ds) (h0 : d = .tuple []) : fs.all (·.isSome) = false := by
  induction e with
  | nil => cases hd
  | cons h t ih =>
    rw [List.all_cons]
    rcases List.mem_cons.mp hd with z | z
    · rw [h, ← z, h0]
      rfl
    · rw [ih z, Bool.and_false]
/-- tuples that are alike, an empty one among them, can be sorted -/
theorem sortsAt_empty {vs : List Value} {ds : List PyData} (e : EachIs (fun v d => ∃ as, Reads s.heap v d as) vs ds) (hal : AllAlike ds) (ht : ∀ d, d ∈ ds → ∃ r, d = .tuple r) (h0 : PyData.tuple [] ∈ ds) (hu : ∀ d, d ∈ ds → A.units + d.depth < cLine) : SortsAt prog w A s (dataKind s.heap ds) vs := by
  have room : ∀ {d d' : PyData}, d ∈ ds → A.units + min d.depth d'.depth < cLine := fun {d d'} hd => Nat.lt_of_le_of_lt (Nat.add_le_add_left (Nat.min_le_left _ _) _) (hu d hd)
  refine ⟨fun v hv => ?_, ?_⟩
  · obtain ⟨d, hd, as, r⟩ := e.left v hv
    exact ⟨_, dataKind_some hal hd r⟩
  · cases ds with
    | nil => cases h0
    | cons d₀ ds₀ =>
      obtain ⟨r₀, rfl⟩ := ht d₀ List.mem_cons_self
      cases r₀ with
      | cons x₀ r₀ =>
        -- the first is not empty: the general kind
        refine ⟨general', ?_, fun h2 E Q hq => ?_⟩
        · intro E x y a b Q ha hb hq
          obtain ⟨d, as, hd, ra, rfl⟩ := dataKind_inv ha
          obtain ⟨d', as', hd', rb, rfl⟩ := dataKind_inv hb
          obtain ⟨r1, rfl⟩ := ht d hd
          show wpAny (model prog w) A (oneLt' false x y) Q E s
          exact oneLt_alike (fun z => by cases z) ra rb (hal _ hd d' hd') (fun z => by cases z) (room hd) hq
        · rw [keyKind'_eq, List.mapM_toArray, map_eq_pure_bind]
          refine wpAny_bind (wpAny_bind (firsts_any vs _ e ht fun fs ef => wpAny_pure ?_))
          have hall : (fs.toArray.all fun x => x.isSome) = false := by
            rw [List.all_toArray]
            exact each_all ef _ h0 rfl
          rw [if_neg (by rw [hall]; exact Bool.false_ne_true)]
          cases ef with
          | @cons f _ fs _ hf hr =>
            have hf0 : ((f :: fs).toArray[0]?.bind id).isSome = true := by
              have : (f :: fs).toArray[0]? = some f := by simp
              rw [this]
              show f.isSome = true
              rw [hf]
              rfl
            rw [if_pos hf0]
            exact wpAny_pure hq
      | nil =>
        -- the first is empty: all are of one type
        refine ⟨oneType', ?_, fun h2 E Q hq => ?_⟩
        · intro E x y a b Q ha hb hq
          obtain ⟨d, as, hd, ra, rfl⟩ := dataKind_inv ha
          obtain ⟨d', as', hd', rb, rfl⟩ := dataKind_inv hb
          obtain ⟨r1, rfl⟩ := ht d hd
          obtain ⟨r2, rfl⟩ := ht d' hd'
          have hdd := hal _ hd _ hd'
          have hroom := room (d' := .tuple r2) hd
          have hq' : Q (dataLt (.tuple r1) (.tuple r2)) s := hq
          rw [keyLt'_oneType]
          have hal' : alikeAll r1 r2 = true := by simpa [alike] using hdd
          cases ra with
          | @tuple l o xs n _ _ h1 h2 h3 h4 =>
            cases rb with
            | @tuple l' o' xs' n' _ _ k1 k2 k3 k4 =>
              have n1 : xs.size = r1.length := by simpa using SeqAt.ReadsAll.length _ _ _ h4
              have n2 : xs'.size = r2.length := by simpa using SeqAt.ReadsAll.length _ _ _ k4
              rw [dataLt_tuple, ← firstLt_toks r1 r2 hal', ← n1, ← n2] at hq'
              rw [oneLt'_eq]
              simp only [if_true]
              refine wpAny_bind (wpAny_cRoomFor (room_here hroom) ?_)
              refine wpAny_bind (wpAny_callSpecialIfBound?_slot (T := "tuple") ⟨_, h1, h2⟩ F.slot_tuple_lt (call_tuple_lt (e := pairEq r1 r2) (r := fun j => dataLt (r1.getD j .none) (r2.getD j .none)) ⟨_, h1, h2, _, h3⟩ ⟨_, k1, k2, _, k3⟩ (fun j j1 j2 => ?_) (fun j j1 j2 hj => ?_) ?_))
              · have := eqAt_alikeAll r1 r2 A.in1 s xs.toList xs'.toList _ _ h4 k4 hal' (room_in hroom) j (by simpa using j1) (by simpa using j2)
                simpa using this
              · have := rcLt_alikeAll r1 r2 A.in1 s xs.toList xs'.toList _ _ h4 k4 hal' (room_in hroom) j (by simpa using j1) (by simpa using j2) hj
                simpa using this
              · exact wpAny_truthy_bool hq'
        · rw [keyKind'_eq, List.mapM_toArray, map_eq_pure_bind]
          refine wpAny_bind (wpAny_bind (firsts_any vs _ e ht fun fs ef => wpAny_pure ?_))
          have hall : (fs.toArray.all fun x => x.isSome) = false := by
            rw [List.all_toArray]
            exact each_all ef _ h0 rfl
          rw [if_neg (by rw [hall]; exact Bool.false_ne_true)]
          cases ef with
          | @cons f _ fs _ hf hr =>
            have hf0 : ((f :: fs).toArray[0]?.bind id).isSome = false := by
              have : (f :: fs).toArray[0]? = some f := by simp
              rw [this]
              show f.isSome = false
              rw [hf]
              rfl
            rw [if_neg (by rw [hf0]; exact Bool.false_ne_true)]
            have hT : ∀ v ∈ vs, Looks (model prog w) s.heap (typeOf v) (Value.type "tuple") := by
              intro v hv
              obtain ⟨d, hd, as, r⟩ := e.left v hv
              obtain ⟨r1, rfl⟩ := ht d hd
              exact looks_reads r
            rw [oneTypeOnly'_eq, List.mapM_toArray, map_eq_pure_bind]
            refine wpAny_bind (wpAny_bind (wpAny_bind (kas_mapM (r := Value.type "tuple") _ (fun v hv Q' hq => (hT v hv).here hq) (wpAny_pure ?_))))
            have hall2 : ((List.map (fun _ => Value.type "tuple") vs).toArray.all fun x => x == Value.type "tuple") = true := by
              simp only [List.all_toArray, List.all_map, List.all_eq_true]
              intro _ _
              exact beq_self_eq_true _
            obtain ⟨v1, vr, rfl⟩ : ∃ v1 vr, vs = v1 :: vr := by
              cases vs with
              | nil => exact absurd h2 (by simp)
              | cons v1 vr => exact ⟨v1, vr, rfl⟩
            have hg0 : (List.map (fun _ => Value.type "tuple") (v1 :: vr)).toArray[0]? = some (Value.type "tuple") := by simp
            rw [hg0]
            simp only [hall2, if_true]
            exact wpAny_pure (wpAny_pure hq)
theorem sortsAt_tups {vs : List Value} {ds : List PyData} (e : EachIs (fun v d => ∃ as, Reads s.heap v d as) vs ds) (hal : AllAlike ds) (ht : ∀ d, d ∈ ds → ∃ r, d = .tuple r) (hu : ∀ d, d ∈ ds → A.units + d.depth < cLine) : SortsAt prog w A s (dataKind s.heap ds) vs := by
  by_cases h0 : PyData.tuple [] ∈ ds
  · exact sortsAt_empty e hal ht h0 hu
  · refine SortsAt.data e hal (.inl fun d hd => ?_) hu
    obtain ⟨r, rfl⟩ := ht d hd
    cases r with
    | nil => exact absurd hd h0
    | cons x r => exact ⟨x, r, rfl⟩

/-- sorted(xs), xs alike tuples, the empty one among them or not -/
theorem sorted_tups_any {β : Type} {R : Value → β → Prop} {enc : β → PyData} {bs : List β} {vs : List Value} {l : Addr} {Q : Value → Shared → Prop} (hl : s.heap.IsList l vs.toArray) (e : EachIs R vs bs) (er : EachIs (fun v b => ∃ as, Reads s.heap v (enc b) as) vs bs)
    (hal : ∀ b b', alike (enc b) (enc b') = true) (ht : ∀ b, ∃ r, enc b = .tuple r) (hL : bs.length ≤ sizeLine)
    (hu : ∀ b, A.units + 2 + (enc b).depth < cLine) (h : ∀ out, out.length = bs.length → EachIs R out (bs.mergeSort (dataLe false enc)) → Q (.ref (s.heap.objs.size + 1)) { s with heap := sortedAll s.heap vs (List.toArray out) }) :
    wpAny (model prog w) A (call (.builtin "sorted") [.ref l]) Q E s := by
  have hal' : AllAlike (bs.map enc) := AllAlike.of hal
  have er' : EachIs (fun v b => ∃ as, Reads (sortingHeap (copyHeap s.heap vs) (s.heap.objs.size + 1) vs) v (enc b) as) vs bs := er.mono fun _ _ ⟨as, r⟩ => ⟨as, PyProof.Rows.Reads.keeps (fun _ _ => sorting_copy_old) r⟩
  exact sorted_vals hl (sortsAt_tups (s := { s with heap := sortingHeap (copyHeap s.heap vs) (s.heap.objs.size + 1) vs }) (each_map (R := fun v d => ∃ as, Reads (sortingHeap (copyHeap s.heap vs) (s.heap.objs.size + 1) vs) v d as) enc er') hal'
      (fun d hd => by obtain ⟨b, _, rfl⟩ := List.mem_map.mp hd; exact ht b) (fun d hd => by obtain ⟨b, _, rfl⟩ := List.mem_map.mp hd; exact hu b)) (by rw [e.length]; exact hL)
    (h _ (by rw [sortVals_length false rfl]; exact e.length) (sortVals_data false e er' hal'))
end
end GL

namespace GL
open PySem PySem.Spec PyProof.Rows L2
open PySem.W (EachIs dataLe alike)
section
variable {X : Cx}
theorem each_zip {β : Type} {R : V → β → Prop} : ∀ {xs : List V} {us : List Value} {bs : List β}, Vals xs us → EachIs R xs bs → EachIs (fun (u : Value) b => ∃ x, RelV x u ∧ R x b) us bs
  | _, _, _, .nil, .nil => .nil
  | _, _, _, .cons r t, .cons h k => .cons ⟨_, r, h⟩ (each_zip t k)
theorem each_unzip {β : Type} {R : V → β → Prop} : ∀ {us : List Value} {bs : List β}, EachIs (fun (u : Value) b => ∃ x, RelV x u ∧ R x b) us bs → ∃ xs, Vals xs us ∧ EachIs R xs bs
  | _, _, .nil => ⟨[], .nil, .nil⟩
  | _, _, .cons ⟨x, r, h⟩ t => by
    obtain ⟨xs, rr, hh⟩ := each_unzip t
    exact ⟨x :: xs, .cons r rr, .cons h hh⟩
/-- sorted(xs): the items are data (tuples) of one kind; R what is known of an item -/
def rSortG {β : Type} (K : PySem.W.Frag) (R : Hp → V → β → Prop) (enc : β → PyData) : List V → Hp → VK → Prop := fun vs H Q => ∃ (a : Addr) (xs : List V) (bs : List β), vs = [.ref a] ∧ SqL K H a xs ∧ EachIs (R H) xs bs ∧
  ∀ ys p, EachIs (R H) ys (bs.mergeSort (dataLe false enc)) → H p = none → Q (.ref p) (upd H p (.lst ys))
theorem call_sortG {β : Type} {R : Hp → V → β → Prop} {enc : β → PyData} (hR : ∀ H x b, R H x b → Dp X.K H x (enc b)) (hal : ∀ b b', alike (enc b) (enc b') = true) (ht : ∀ b, ∃ r, enc b = .tuple r) (hdep : ∀ b, (enc b).depth ≤ 8) (hu : X.A.units + 64 < cLine) :
    CallR X (.builtin "sorted") (rSortG X.K R enc) := by
  intro pins s σ H vs us Q I r h
  obtain ⟨a, xs, bs, rfl, hs, hE, q⟩ := h
  obtain ⟨its, rv, hl, hz⟩ := I.list hs
  rw [Vals.ref1 r]
  have e := each_zip rv hE
  have er : EachIs (fun v b => ∃ as, Reads s.heap v (enc b) as) its bs := e.mono fun u b ⟨x, rx, hx⟩ => Dp.reads I (enc b) x u (hR H x b hx) rx
  refine sorted_tups_any hl.isList e er hal ht (by rw [← e.length, ← rv.length]; exact hz) (fun b => by have := hdep b; omega) fun out hlo eo => ?_
  obtain ⟨ys, ry, hy⟩ := each_unzip eo
  obtain ⟨ep, he'⟩ := PyProof.Rows.sortedAll_at s.heap its (List.toArray out)
  have hlen : ys.length ≤ sizeLine := by rw [ry.length, hlo, ← e.length, ← rv.length]; exact hz
  exact ⟨.ref _, upd H (s.heap.objs.size + 1) (.lst ys), I.laid (t' := s.toks) (fun _ _ => PyProof.Rows.sortedAll_old) (Nat.le_succ _) ⟨hlen, out, ep, ry, he'⟩, rfl, q ys _ hy (I.hok.fresh (Nat.le_succ _))⟩
end
/-! ### a method called where what is raised is wished for at the caller's slots -/
section
variable {X : Cx} {CX : CXT} {k : Nat} {f C : Addr} {fd : FuncData} {ps : List Str} {sp : Sp} {E : L2.St → XK} {m : Str} {p pos apos : Pos} {e o : Expr} {es : List Expr} {ta : TE} {t : TA}
def tMethSl (C : Addr) (m : Str) (sp : Sp) (E : L2.St → XK) (ta : TE) (t : TA) : TE := fun σ H Q => ta σ H fun x H1 => ∃ a dx fs, x = .ref a ∧ H1 a = some (.ins C dx fs) ∧ fs.lookup m = none ∧
  t σ H1 fun vs H2 => sp (x :: vs) H2 Q (E σ)
theorem pe_methSl {pl : Sem Bool} (he : PE X o ta) (c : Cls X.K C) (hm : Meth X.K C m f) (F : FnOk X.prog X.w X.K X.mg X.base CX k f fd ps sp) (hr : Room k X.A) (hb : Binds X.K fd ps []) (hx : ∀ σ, PassesAt CX X σ (E σ)) (ha : PA X (e :: es) t)
    (hst : starEach (e :: es) X.env = (false, eval e X.env) :: starEach es X.env := by rfl) (hpl : (backTo pos (starEach es X.env)).any (·.1) = false := by rfl)
    (ht : eval (.Call (.Attribute o m apos) (e :: es) [] pos) X.env = (do
      let ov ← eval o X.env
      standAt apos.atName
      let (f, first) ← holding [ov] (getMethod ov m pl)
      callWith pos f first (backTo pos (starEach (e :: es) X.env)) (backToKw pos (keywordEach [] X.env))) := by rfl) :
    PE X (.Call (.Attribute o m apos) (e :: es) [] pos) (tMethSl C m sp E ta t) := by
  refine ⟨fun pins s σ H Q I h => ?_⟩
  refine PySem.W.methodCall_KW (pl := pl) (thn (he.run pins s σ H _ I h) fun u s1 ⟨x, H1, I1, rx, a, dx, fs, ex, ea, l, q⟩ => ?_) ht
  subst ex
  obtain rfl : u = Value.ref a := rx
  refine getmeth_ok I1 ea c hm l ?_
  refine PySem.W.callWith_K (first := [.ref a]) (h₀ := X.base) I.ok.mod.kin hm.kp (thn (ha.run pos pins s1 σ H1 _ I1 q) fun us s2 ⟨vs, H2, I2, r, q2⟩ => ⟨I2.kIn, ?_⟩) hst hpl
  exact run_fnS (us := .ref a :: us) (vs := .ref a :: vs) F hr hb (hx σ) I2 (.cons rfl r) q2
end
/-! ### isinstance(e, (A, B, ..)), e the error that the suite holds -/
def rIsET (K : PySem.W.Frag) (D a : Addr) : List V → Hp → VK → Prop := fun xs H Q => ∃ (tp : Addr) (cs : List V) (us : List Value) (b : Bool), xs = [.ref a, .ref tp] ∧ H tp = some (.tup cs) ∧ Paired ClsV cs us ∧ PySem.W.kitAny K (.ref D) us = some b ∧ Q (.bl b) H
theorem call_isET {X : Cx} {a D : Addr} {oe : Obj} {pn : List (Addr × Obj)} (C : ExcC X.K D) (hz : Zc (.ref D) none oe) (hf : ∃ vs, oe.data = .fields vs) : CallR (X.suite a ((a, oe) :: pn)) (.builtin "isinstance") (rIsET X.K D a) := by
  intro pins s σ H xs us Q I r h
  obtain ⟨tp, cs, ws, b, rfl, hT, k, e, q⟩ := h
  obtain ⟨u1, u2, rfl, r1, r2⟩ := vals2 r
  cases (show u2 = Value.ref tp from r2)
  cases (show u1 = Value.ref a from r1)
  obtain ⟨hget, _⟩ := I.pin (a, oe) (List.mem_append.mpr (.inl List.mem_cons_self))
  obtain ⟨vs, hv⟩ := hf
  have J : PySem.W.InstAt s.heap a oe D none := by
    obtain ⟨oc, od, oda, osl⟩ := oe
    obtain ⟨h1, h2⟩ := hz
    dsimp only at h1 h2 hv
    subst h1 h2 hv
    exact ⟨hget, rfl, rfl, trivial⟩
  obtain ⟨_, its, rv, o, h1, h2, n, h3⟩ := (show ObjOk X.prog X.w H s.heap tp (.tup cs) from I.hok tp _ hT)
  have e3 := ClsV.all k rv
  subst e3
  obtain ⟨oc, od, dt, sl⟩ := o
  simp only at h2 h3
  subst h2 h3
  exact PySem.W.kia_tup (PySem.W.handS_kitx_exc C.hg C.hk C.hs C.hd C.ha C.hn C.ht C.hm) I.kIn J h1 e (fun z => nomatch z) fun tk => ⟨.bl b, H, I.kept (t' := tk) fun _ _ z => z, rfl, q⟩
end GL

namespace GL
section
open PySem PySem.W PyProof.Rows PySem.SeqAt
/-- a is a tuple or a list -/
def seqD : PyData → Bool
  | .tuple _ => true
  | .list _ => true
  | _ => false
theorem rcAt_al {da db : PyData} {A : Around} {s : Shared} {a b : Value} {as bs : List Addr} (ra : Reads s.heap a da as) (rb : Reads s.heap b db bs) (hs : seqD da = true) (h : alike da db = true) (hu : A.units + min da.depth db.depth < cLine) :
    RcAt A s a b (PyData.eqv da db) ∧ RcNeAt A s a b (!PyData.eqv da db) := by
  cases da with
  | list xs =>
    cases db with
    | list ys =>
      have hal : alikeAll xs ys = true := by simpa [alike] using h
      cases ra with
      | @list l o vs n _ as₁ h1 h2 h3 h4 =>
        cases rb with
        | @list l' o' vs' n' _ bs₁ k1 k2 k3 k4 =>
          have hl : s.heap.IsList l vs := ⟨_, h1, h2, _, h3⟩
          have hl' : s.heap.IsList l' vs' := ⟨_, k1, k2, _, k3⟩
          have n1 : vs.size = xs.length := by simpa using ReadsAll.length _ _ _ h4
          have n2 : vs'.size = ys.length := by simpa using ReadsAll.length _ _ _ k4
          have he : ∀ j (j1 : j < vs.size) (j2 : j < vs'.size), EqAt A.in1 s vs[j] vs'[j] (pairEq xs ys j) := fun j j1 j2 => by
            have := eqAt_alikeAll xs ys A.in1 s vs.toList vs'.toList _ _ h4 k4 hal (room_in hu) j (by simpa using j1) (by simpa using j2)
            simpa using this
          show RcAt A s (.ref l) (.ref l') (PyData.eqvAll xs ys) ∧ RcNeAt A s (.ref l) (.ref l') (!PyData.eqvAll xs ys)
          by_cases hsz : vs.size = vs'.size
          · rw [← eqvAll_same_length (by omega : xs.length = ys.length), ← n1]
            exact ⟨RcAt.lists hl hl' hsz (room_here hu) he, RcNeAt.lists hl hl' hsz (room_here hu) he⟩
          · rw [eqvAll_other_length (by omega : xs.length ≠ ys.length)]
            exact ⟨RcAt.lists_lengths hl hl' (by simpa using hsz) (room_here hu), RcNeAt.lists_lengths hl hl' (by simpa using hsz) (room_here hu)⟩
    | _ => exact absurd h (by simp [alike])
  | tuple xs =>
    cases db with
    | tuple ys =>
      have hal : alikeAll xs ys = true := by simpa [alike] using h
      cases ra with
      | @tuple l o vs n _ as₁ h1 h2 h3 h4 =>
        cases rb with
        | @tuple l' o' vs' n' _ bs₁ k1 k2 k3 k4 =>
          have hl : s.heap.IsTuple l vs := ⟨_, h1, h2, _, h3⟩
          have hl' : s.heap.IsTuple l' vs' := ⟨_, k1, k2, _, k3⟩
          have n1 : vs.size = xs.length := by simpa using ReadsAll.length _ _ _ h4
          have n2 : vs'.size = ys.length := by simpa using ReadsAll.length _ _ _ k4
          have he : ∀ j (j1 : j < vs.size) (j2 : j < vs'.size), EqAt A.in1 s vs[j] vs'[j] (pairEq xs ys j) := fun j j1 j2 => by
            have := eqAt_alikeAll xs ys A.in1 s vs.toList vs'.toList _ _ h4 k4 hal (room_in hu) j (by simpa using j1) (by simpa using j2)
            simpa using this
          show RcAt A s (.ref l) (.ref l') (PyData.eqvAll xs ys) ∧ RcNeAt A s (.ref l) (.ref l') (!PyData.eqvAll xs ys)
          rw [← eqvAll_eq xs ys, ← n1, ← n2]
          exact ⟨RcAt.tuples hl hl' (room_here hu) he, RcNeAt.tuples hl hl' (room_here hu) he⟩
    | _ => exact absurd h (by simp [alike])
  | none => cases hs
  | bool _ => cases hs
  | int _ => cases hs
  | str _ => cases hs
  | dict _ => cases hs
end
open PySem PySem.Spec PyProof.Rows L2
section
variable {X : Cx}
/-- == and != of tuples or lists that are alike place by place, whatever texts they hold -/
def rEqA (K : PySem.W.Frag) : R2 := fun x y H Q => ∃ d e, Dp K H x d ∧ Dp K H y e ∧ seqD d = true ∧ PySem.W.alike d e = true ∧ d.depth ≤ 8 ∧ Q (.bl (PyData.eqv d e)) H
def rNeA (K : PySem.W.Frag) : R2 := fun x y H Q => ∃ d e, Dp K H x d ∧ Dp K H y e ∧ seqD d = true ∧ PySem.W.alike d e = true ∧ d.depth ≤ 8 ∧ Q (.bl (!PyData.eqv d e)) H
theorem op_eqA (hu : X.A.units + 64 < cLine) : OpR X (compareOp .Eq) (rEqA X.K) := by
  intro pins s σ H x y v u Q I rx ry h
  obtain ⟨d, e, hd, he, sd, al, dp, q⟩ := h
  obtain ⟨as, r1⟩ := Dp.reads I d x v hd rx
  obtain ⟨bs, r2⟩ := Dp.reads I e y u he ry
  exact (rcAt_al r1 r2 sd al (by omega)).1 X.prog X.w X.xe _ ⟨.bl _, H, I, rfl, q⟩
theorem op_neA (hu : X.A.units + 64 < cLine) : OpR X (compareOp .NotEq) (rNeA X.K) := by
  intro pins s σ H x y v u Q I rx ry h
  obtain ⟨d, e, hd, he, sd, al, dp, q⟩ := h
  obtain ⟨as, r1⟩ := Dp.reads I d x v hd rx
  obtain ⟨bs, r2⟩ := Dp.reads I e y u he ry
  exact (rcAt_al r1 r2 sd al (by omega)).2 X.prog X.w X.xe _ ⟨.bl _, H, I, rfl, q⟩
end
end GL

/-! G2: what stands in the heap: ways, entries, panes, dicts by ways; what is kept when other things change. -/
namespace GL
open PySem PySem.Spec PyProof.Rows L2
open PySem.W (EachIs)

/-! ### lists that go together -/
section
variable {α β : Type} {R : α → β → Prop}
theorem each_get : ∀ {as : List α} {bs : List β} {i : Nat} {a : α}, EachIs R as bs → as[i]? = some a → ∃ b, bs[i]? = some b ∧ R a b
  | _, _, _, _, .nil, h => by simp at h
  | _, _, 0, _, .cons r _, h => by
    simp only [List.getElem?_cons_zero] at h
    cases h
    exact ⟨_, rfl, r⟩
  | _, _, i + 1, _, .cons _ t, h => by
    simp only [List.getElem?_cons_succ] at h
    obtain ⟨b, e, q⟩ := each_get t h
    exact ⟨b, by simpa using e, q⟩
theorem each_get2 : ∀ {as : List α} {bs : List β} {i : Nat} {b : β}, EachIs R as bs → bs[i]? = some b → ∃ a, as[i]? = some a ∧ R a b
  | _, _, _, _, .nil, h => by simp at h
  | _, _, 0, _, .cons r _, h => by
    simp only [List.getElem?_cons_zero] at h
    cases h
    exact ⟨_, rfl, r⟩
  | _, _, i + 1, _, .cons _ t, h => by
    simp only [List.getElem?_cons_succ] at h
    obtain ⟨b, e, q⟩ := each_get2 t h
    exact ⟨b, by simpa using e, q⟩
theorem each_app : ∀ {as : List α} {bs : List β} {cs : List α} {ds : List β}, EachIs R as bs → EachIs R cs ds → EachIs R (as ++ cs) (bs ++ ds)
  | _, _, _, _, .nil, h => h
  | _, _, _, _, .cons r t, h => .cons r (each_app t h)
theorem each_take : ∀ {as : List α} {bs : List β} (n : Nat), EachIs R as bs → EachIs R (as.take n) (bs.take n)
  | _, _, 0, _ => by rw [List.take_zero, List.take_zero]; exact .nil
  | _, _, _ + 1, .nil => .nil
  | _, _, n + 1, .cons r t => .cons r (each_take n t)
theorem each_drop : ∀ {as : List α} {bs : List β} (n : Nat), EachIs R as bs → EachIs R (as.drop n) (bs.drop n)
  | _, _, 0, h => h
  | _, _, _ + 1, .nil => .nil
  | _, _, n + 1, .cons _ t => each_drop n t
theorem each_set {x : α} {y : β} (h : R x y) : ∀ {as : List α} {bs : List β} (n : Nat), EachIs R as bs → EachIs R (as.set n x) (bs.set n y)
  | _, _, _, .nil => .nil
  | _, _, 0, .cons _ t => .cons h t
  | _, _, n + 1, .cons r t => .cons r (each_set h n t)
theorem each_one {x : α} {y : β} (h : R x y) : EachIs R [x] [y] := .cons h .nil
theorem each_mapr {γ : Type} (f : γ → β) : ∀ {as : List α} {cs : List γ}, EachIs (fun a c => R a (f c)) as cs → EachIs R as (cs.map f)
  | _, _, .nil => .nil
  | _, _, .cons r t => .cons r (each_mapr f t)
theorem each_mapl {γ : Type} (f : γ → α) : ∀ {cs : List γ} {bs : List β}, EachIs (fun c b => R (f c) b) cs bs → EachIs R (cs.map f) bs
  | _, _, .nil => .nil
  | _, _, .cons r t => .cons r (each_mapl f t)
theorem each_and {S : α → β → Prop} : ∀ {as : List α} {bs : List β}, EachIs R as bs → EachIs S as bs → EachIs (fun a b => R a b ∧ S a b) as bs
  | _, _, .nil, _ => .nil
  | _, _, .cons r t, .cons r' t' => .cons ⟨r, r'⟩ (each_and t t')
end

/-! ### what stays -/
/-- the tuples stay -/
def Tst (H H' : Hp) : Prop := ∀ b xs, H b = some (.tup xs) → H' b = some (.tup xs)
theorem Tst.refl (H : Hp) : Tst H H := fun _ _ e => e
theorem Tst.trans {H H1 H2 : Hp} (a : Tst H H1) (b : Tst H1 H2) : Tst H H2 := fun c xs e => b c xs (a c xs e)
theorem tst_of {H H' : Hp} (s : Same H H') : Tst H H' := fun b _ e => s b _ e
section
variable {H H0 : Hp} {p d : Addr} {o : HO}
theorem same_new (h : H p = none) : Same H (upd H p o) := fun b u e => by rw [upd_ne (ne_of_none e h)]; exact e
theorem tst_new (h : H p = none) : Tst H (upd H p o) := tst_of (same_new h)
theorem tst_upd (h : ∀ xs, H d ≠ some (.tup xs)) : Tst H (upd H d o) := fun b ys e => by
  by_cases q : b = d
  · subst q; exact absurd e (h ys)
  · rw [upd_ne q]; exact e
theorem tst_lst {xs : List V} (h : H d = some (.lst xs)) : Tst H (upd H d o) := tst_upd fun ys q => by rw [h] at q; cases q
theorem tst_dT {kvs : List (List L2.Key × V)} (h : H d = some (.dT kvs)) : Tst H (upd H d o) := tst_upd fun ys q => by rw [h] at q; cases q
theorem tst_ins {C dx : Addr} {fs : List (Str × V)} (h : H d = some (.ins C dx fs)) : Tst H (upd H d o) := tst_upd fun ys q => by rw [h] at q; cases q
/-- a thing that was made since H0 is changed -/
theorem same_upd (s : Same H0 H) (n : H0 d = none) : Same H0 (upd H d o) := fun b u e => by rw [upd_ne (ne_of_none e n)]; exact s b u e
end

/-! ### ways, things, entries -/
def WayAt (H : Hp) (a : Addr) (w : Way) : Prop := H a = some (.tup (w.map V.str))
def WV (H : Hp) (v : V) (w : Way) : Prop := ∃ a, v = .ref a ∧ WayAt H a w
def ThV (H : Hp) (v : V) (t : Thing) : Prop := ∃ a, v = .ref a ∧ H a = some (.tup [.str t.1, .str t.2])
def MkV (_ : Hp) (v : V) (m : Str) : Prop := v = .str m
def EntV (H : Hp) (v : V) (e : Ent) : Prop := ∃ a b, v = .ref a ∧ H a = some (.tup [.ref b, .str e.2.1, .str e.2.2]) ∧ WayAt H b e.1
def PaneV (H : Hp) (v : V) (es : List Ent) : Prop := ∃ l vs, v = .ref l ∧ H l = some (.lst vs) ∧ EachIs (EntV H) vs es
def PanesV (H : Hp) (v : V) (ps : List (List Ent)) : Prop := ∃ l vs, v = .ref l ∧ H l = some (.lst vs) ∧ EachIs (PaneV H) vs ps
/-- two entries told, or none -/
def PairV (H : Hp) (v : V) : Option (Ent × Ent) → Prop
  | none => v = .non
  | some p => ∃ a va vb, v = .ref a ∧ H a = some (.tup [va, vb]) ∧ EntV H va p.1 ∧ EntV H vb p.2
section
variable {H H' : Hp} {v : V}
theorem WV.tst {w : Way} (h : WV H v w) (s : Tst H H') : WV H' v w := let ⟨a, e, q⟩ := h; ⟨a, e, s a _ q⟩
theorem ThV.tst {t : Thing} (h : ThV H v t) (s : Tst H H') : ThV H' v t := let ⟨a, e, q⟩ := h; ⟨a, e, s a _ q⟩
theorem EntV.tst {e : Ent} (h : EntV H v e) (s : Tst H H') : EntV H' v e := let ⟨a, b, x, q, r⟩ := h; ⟨a, b, x, s a _ q, s b _ r⟩
theorem PairV.tst {p : Option (Ent × Ent)} (h : PairV H v p) (s : Tst H H') : PairV H' v p := by
  cases p with
  | none => exact h
  | some p =>
    obtain ⟨a, va, vb, e, q, x, y⟩ := h
    exact ⟨a, va, vb, e, s a _ q, x.tst s, y.tst s⟩
theorem ents_tst {vs : List V} {es : List Ent} (h : EachIs (EntV H) vs es) (s : Tst H H') : EachIs (EntV H') vs es := h.mono fun _ _ q => q.tst s
theorem PaneV.same {es : List Ent} (h : PaneV H v es) (s : Same H H') : PaneV H' v es := let ⟨l, vs, e, q, r⟩ := h; ⟨l, vs, e, s l _ q, ents_tst r (tst_of s)⟩
theorem PanesV.same {ps : List (List Ent)} (h : PanesV H v ps) (s : Same H H') : PanesV H' v ps := let ⟨l, vs, e, q, r⟩ := h; ⟨l, vs, e, s l _ q, r.mono fun _ _ z => z.same s⟩
/-- lists stay but at g -/
theorem PaneV.but {es : List Ent} {g : Addr} (h : PaneV H v es) (hg : ∀ xs, H g ≠ some (.lst xs) ∧ H g ≠ some (.tup xs)) (s : ∀ b o, H b = some o → b ≠ g → H' b = some o) : PaneV H' v es := by
  obtain ⟨l, vs, e, q, r⟩ := h
  have t : Tst H H' := fun b xs z => s b _ z fun w => (hg xs).2 (w ▸ z)
  exact ⟨l, vs, e, s l _ q fun w => (hg vs).1 (w ▸ q), ents_tst r t⟩
theorem PanesV.but {ps : List (List Ent)} {g : Addr} (h : PanesV H v ps) (hg : ∀ xs, H g ≠ some (.lst xs) ∧ H g ≠ some (.tup xs)) (s : ∀ b o, H b = some o → b ≠ g → H' b = some o) : PanesV H' v ps := by
  obtain ⟨l, vs, e, q, r⟩ := h
  exact ⟨l, vs, e, s l _ q fun w => (hg vs).1 (w ▸ q), r.mono fun _ _ z => z.but hg s⟩
end

/-! ### dicts by ways -/
def wk (w : Way) : List L2.Key := w.map Sum.inr
theorem wk_inj {w u : Way} (h : wk w = wk u) : w = u := by
  unfold wk at h
  induction w generalizing u with
  | nil =>
    cases u with
    | nil => rfl
    | cons y u => simp at h
  | cons x w ih =>
    cases u with
    | nil => simp at h
    | cons y u =>
      rw [List.map_cons, List.map_cons] at h
      injection h with h1 h2
      rw [Sum.inr.inj h1, ih h2]
theorem wk_kV (w : Way) : (wk w).map kV = w.map V.str := by
  unfold wk
  rw [List.map_map]
  rfl
/-- R stands as long as the tuples do -/
def Mono {T : Type} (R : Hp → V → T → Prop) : Prop := ∀ H H' v t, Tst H H' → R H v t → R H' v t
theorem mono_th : Mono ThV := fun _ _ _ _ s h => h.tst s
theorem mono_mk : Mono MkV := fun _ _ _ _ _ h => h
def DictR {T : Type} (R : Hp → V → T → Prop) (H : Hp) (d : Addr) (es : List (Way × T)) : Prop := ∃ kvs : List (List L2.Key × V), H d = some (.dT kvs) ∧ EachIs (fun kv e => kv.1 = wk e.1 ∧ R H kv.2 e.2) kvs es
section
variable {T : Type} {R : Hp → V → T → Prop} {H H' : Hp} {d b : Addr} {es : List (Way × T)} {w : Way} {t : T}
theorem each_val_some {P : V → T → Prop} : ∀ {kvs : List (List L2.Key × V)} {es : List (Way × T)}, EachIs (fun kv e => kv.1 = wk e.1 ∧ P kv.2 e.2) kvs es → look es w = some t → ∃ v, valV kvs (wk w) = some v ∧ P v t
  | _, _, .nil, h => by cases h
  | _, _, .cons (a := kv) (b := e) ⟨hk, hp⟩ r, h => by
    rw [look_cons] at h
    by_cases q : e.1 = w
    · rw [if_pos q] at h
      have := Option.some.inj h
      subst this
      exact ⟨kv.2, valV_pos (by rw [hk, q]), hp⟩
    · rw [if_neg q] at h
      obtain ⟨v, e1, e2⟩ := each_val_some r h
      exact ⟨v, by rw [valV_neg (fun z => q (wk_inj (hk.symm.trans z)))]; exact e1, e2⟩
theorem each_val_none {P : V → T → Prop} : ∀ {kvs : List (List L2.Key × V)} {es : List (Way × T)}, EachIs (fun kv e => kv.1 = wk e.1 ∧ P kv.2 e.2) kvs es → look es w = none → valV kvs (wk w) = none
  | _, _, .nil, _ => valV_nil
  | _, _, .cons (a := kv) (b := e) ⟨hk, hp⟩ r, h => by
    rw [look_cons] at h
    by_cases q : e.1 = w
    · rw [if_pos q] at h; cases h
    · rw [if_neg q] at h
      rw [valV_neg (fun z => q (wk_inj (hk.symm.trans z)))]
      exact each_val_none r h
theorem DictR.at_ (h : DictR R H d es) : ∃ kvs, H d = some (.dT kvs) := let ⟨k, e, _⟩ := h; ⟨k, e⟩
theorem way_key (hb : WayAt H b w) : H b = some (.tup ((wk w).map kV)) := by rw [wk_kV]; exact hb
theorem DictR.some_ (h : DictR R H d es) (hb : WayAt H b w) (e : look es w = some t) : ∃ v, DGet H d (.ref b) (some v) ∧ R H v t := by
  obtain ⟨kvs, e1, e2⟩ := h
  obtain ⟨v, e3, e4⟩ := each_val_some e2 e
  have g := DGet.t e1 (way_key hb)
  rw [e3] at g
  exact ⟨v, g, e4⟩
theorem DictR.none_ (h : DictR R H d es) (hb : WayAt H b w) (e : look es w = none) : DGet H d (.ref b) none := by
  obtain ⟨kvs, e1, e2⟩ := h
  have g := DGet.t e1 (way_key hb)
  rw [each_val_none e2 e] at g
  exact g
/-- w in d -/
theorem DictR.in_ (h : DictR R H d es) (hb : WayAt H b w) : ∃ o, DGet H d (.ref b) o ∧ o.isSome = (look es w).isSome := by
  cases e : look es w with
  | none => exact ⟨none, h.none_ hb e, rfl⟩
  | some t =>
    obtain ⟨v, g, _⟩ := h.some_ hb e
    exact ⟨some v, g, rfl⟩
theorem DictR.mono (hR : Mono R) (h : DictR R H d es) (s : Tst H H') (hd : H' d = H d) : DictR R H' d es := by
  obtain ⟨kvs, e1, e2⟩ := h
  exact ⟨kvs, hd.trans e1, e2.mono fun _ _ q => ⟨q.1, hR _ _ _ _ s q.2⟩⟩
theorem DictR.same (hR : Mono R) (h : DictR R H d es) (s : Same H H') : DictR R H' d es := by
  obtain ⟨kvs, e1, e2⟩ := h
  exact ⟨kvs, s _ _ e1, e2.mono fun _ _ q => ⟨q.1, hR _ _ _ _ (tst_of s) q.2⟩⟩
/-- d[w] = v, w new -/
theorem DictR.put (hR : Mono R) (h : DictR R H d es) (hb : WayAt H b w) (e : look es w = none) {v : V} (hv : R H v t) (hl : es.length < sizeLine) :
    ∃ o, DPut H d (.ref b) v (upd H d o) ∧ DictR R (upd H d o) d (es ++ [(w, t)]) ∧ Tst H (upd H d o) := by
  obtain ⟨kvs, e1, e2⟩ := h
  have hn := each_val_none e2 e
  have s : Tst H (upd H d (.dT (putK kvs (wk w) v))) := tst_dT e1
  refine ⟨_, DPut.t e1 (way_key hb) (by rw [e2.length]; exact hl), ⟨_, upd_same, ?_⟩, s⟩
  rw [putK_new v hn] at s ⊢
  exact each_app (e2.mono fun _ _ q => ⟨q.1, hR _ _ _ _ s q.2⟩) (each_one ⟨rfl, hR _ _ _ _ s hv⟩)
theorem dict_new {p : Addr} : DictR R (upd H p (.dT [])) p [] := ⟨[], upd_same, .nil⟩
/-- the ways of a dict, as a list of them tells -/
theorem DictR.keys (h : DictR R H d es) : ∃ kvs, H d = some (.dT kvs) ∧ ∀ bs, IsKeys H kvs bs → EachIs (WV H) (bs.map V.ref) (es.map (·.1)) := by
  obtain ⟨kvs, e1, e2⟩ := h
  refine ⟨kvs, e1, ?_⟩
  clear e1
  intro bs hb
  unfold IsKeys at hb
  induction e2 generalizing bs with
  | nil => cases hb; exact .nil
  | cons q _ ih =>
    cases hb with
    | cons h1 h2 =>
      rw [List.map_cons, List.map_cons]
      refine .cons ⟨_, rfl, ?_⟩ (ih _ h2)
      unfold WayAt
      rw [h1, q.1, wk_kV]
end
/-! ### as data -/
section
variable {K : PySem.W.Frag} {H : Hp} {v : V}
theorem dp_strs : ∀ w : List Str, DpAll K H (w.map V.str) (w.map PyData.str)
  | [] => .nil
  | x :: w => .cons (.str x) (dp_strs w)
theorem WV.dp {w : Way} (h : WV H v w) : Dp K H v (wD w) := by
  obtain ⟨a, rfl, e⟩ := h
  exact .tup (SqT.of e) (dp_strs w)
theorem ThV.dp {t : Thing} (h : ThV H v t) : Dp K H v (.tuple [.str t.1, .str t.2]) := by
  obtain ⟨a, rfl, e⟩ := h
  exact .tup (SqT.of e) (.cons (.str _) (.cons (.str _) .nil))
theorem EntV.dp {e : Ent} (h : EntV H v e) : Dp K H v (eD e) := by
  obtain ⟨a, b, rfl, q, r⟩ := h
  exact .tup (SqT.of q) (.cons (WV.dp ⟨b, rfl, r⟩) (.cons (.str _) (.cons (.str _) .nil)))
theorem dp_each {β : Type} {R : V → β → Prop} {enc : β → PyData} (hR : ∀ v b, R v b → Dp K H v (enc b)) : ∀ {vs : List V} {bs : List β}, EachIs R vs bs → DpAll K H vs (bs.map enc)
  | _, _, .nil => .nil
  | _, _, .cons r t => .cons (hR _ _ r) (dp_each hR t)
def pD (es : List Ent) : PyData := .list (es.map eD)
def psD (ps : List (List Ent)) : PyData := .list (ps.map pD)
def prD (p : Ent × Ent) : PyData := .tuple [eD p.1, eD p.2]
theorem PaneV.dp {es : List Ent} (h : PaneV H v es) : Dp K H v (pD es) := by
  obtain ⟨l, vs, rfl, q, r⟩ := h
  exact .lst (SqL.of q) (dp_each (fun _ _ z => z.dp) r)
theorem PanesV.dp {ps : List (List Ent)} (h : PanesV H v ps) : Dp K H v (psD ps) := by
  obtain ⟨l, vs, rfl, q, r⟩ := h
  exact .lst (SqL.of q) (dp_each (fun _ _ z => z.dp) r)
theorem PairV.dp {p : Ent × Ent} (h : PairV H v (some p)) : Dp K H v (prD p) := by
  obtain ⟨a, va, vb, rfl, q, x, y⟩ := h
  exact .tup (SqT.of q) (.cons x.dp (.cons y.dp .nil))
end
theorem depth_strs : ∀ w : List Str, PyData.depthAll (w.map PyData.str) = 0
  | [] => by simp [PyData.depthAll]
  | x :: w => by
    show PyData.depthAll (.str x :: w.map .str) = 0
    rw [PyData.depthAll, depth_strs w]
    simp [PyData.depth]
theorem depth_w (w : Way) : (wD w).depth = 1 := by
  unfold wD
  rw [PyData.depth, depth_strs]
theorem depth_e (e : Ent) : (eD e).depth = 2 := by
  unfold eD
  simp [PyData.depth, PyData.depthAll, depth_w]
theorem depth_all {β : Type} {enc : β → PyData} {n : Nat} (h : ∀ b, (enc b).depth ≤ n) : ∀ bs : List β, PyData.depthAll (bs.map enc) ≤ n
  | [] => by simp [PyData.depthAll]
  | b :: bs => by
    rw [List.map_cons, PyData.depthAll]
    exact Nat.max_le.mpr ⟨h b, depth_all h bs⟩
theorem depth_p (es : List Ent) : (pD es).depth ≤ 3 := by
  unfold pD
  rw [PyData.depth]
  have := depth_all (enc := eD) (n := 2) (fun e => Nat.le_of_eq (depth_e e)) es
  omega
theorem depth_ps (ps : List (List Ent)) : (psD ps).depth ≤ 4 := by
  unfold psD
  rw [PyData.depth]
  have := depth_all (enc := pD) (n := 3) depth_p ps
  omega
theorem depth_pr (p : Ent × Ent) : (prD p).depth = 3 := by
  unfold prD
  simp [PyData.depth, PyData.depthAll, depth_e]
open PySem.W (alike alikeAll eqv_refl_alike) in
theorem alike_all {β : Type} {enc : β → PyData} (h : ∀ a b, alike (enc a) (enc b) = true) : ∀ xs ys : List β, alikeAll (xs.map enc) (ys.map enc) = true
  | [], _ => by simp [alikeAll]
  | _ :: _, [] => by simp [alikeAll]
  | x :: xs, y :: ys => by
    rw [List.map_cons, List.map_cons, alikeAll, alike_all h xs ys, h x y]
    rfl
open PySem.W (alike alikeAll) in
theorem alike_p (a b : List Ent) : alike (pD a) (pD b) = true := by
  unfold pD
  rw [alike]
  exact alike_all alike_e a b
open PySem.W (alike alikeAll) in
theorem alike_ps (a b : List (List Ent)) : alike (psD a) (psD b) = true := by
  unfold psD
  rw [alike]
  exact alike_all alike_p a b
open PySem.W (alike alikeAll) in
theorem alike_pr (a b : Ent × Ent) : alike (prD a) (prD b) = true := by
  unfold prD
  rw [alike, alikeAll, alikeAll, alikeAll, alike_e, alike_e]
  rfl
open PySem.W (alike alikeAll) in
theorem alike_th (a b : Thing) : alike (.tuple [.str a.1, .str a.2]) (.tuple [.str b.1, .str b.2]) = true := by
  simp [alike, alikeAll]
theorem eqv_th (a b : Thing) : PyData.eqv (.tuple [.str a.1, .str a.2]) (.tuple [.str b.1, .str b.2]) = decide (a = b) := by
  obtain ⟨a1, a2⟩ := a
  obtain ⟨b1, b2⟩ := b
  by_cases h1 : a1 = b1 <;> by_cases h2 : a2 = b2 <;> simp [PyData.eqv, PyData.eqvAll, h1, h2]
end GL

/-! G3: the text by places, what the top has left (Txt), the promises; by_way, covered, shown_entry. -/
namespace GL
open PySem PySem.Spec PyProof.Rows L2
open PySem.W (EachIs)
def top (i : Nat) : Stmt := PySem.Challenge.pw_glasslayers_k73_sunk_in_the_glass.main.body.getD i (.Pass ⟨0, 0, 0, 0⟩)
abbrev sByWay : Stmt := top 20
abbrev sCovered : Stmt := top 21
abbrev sShownEntry : Stmt := top 23
abbrev sLaid : Stmt := top 24
abbrev sSeen : Stmt := top 25
abbrev sJoins : Stmt := top 28
abbrev sShutAbove : Stmt := top 29
abbrev sHungAt : Stmt := top 30
abbrev sMeet : Stmt := top 31
abbrev sSunk : Stmt := top 32
abbrev sGInit : Stmt := inClass (top 34) 0
abbrev sGSeen : Stmt := inClass (top 34) 1
abbrev sGPanes : Stmt := inClass (top 34) 2
abbrev sGSink : Stmt := inClass (top 34) 8
abbrev sCellAt : Stmt := top 36
abbrev sCells : Stmt := top 37
abbrev sMixed : Stmt := top 38
abbrev sNameBy : Stmt := top 39
abbrev sTextBy : Stmt := top 40
abbrev sUnderShut : Stmt := top 41
abbrev sPaneBy : Stmt := top 42
abbrev sLLaid : Stmt := top 43
abbrev sLSame : Stmt := top 44
abbrev sLSunk : Stmt := top 45
abbrev sLSeen : Stmt := top 46
abbrev sNumber : Stmt := top 47
abbrev sPassed : Stmt := top 48
abbrev sRight : Stmt := top 49
abbrev sLaw : Stmt := top 50
/-- the marks' names, the built-ins -/
structure Txt (mg : Str → Option Value) : Prop where
  file : ∃ t, mg "FILE" = some (.str FILE t)
  link : ∃ t, mg "LINK" = some (.str LINK t)
  folder : ∃ t, mg "FOLDER" = some (.str FOLDER t)
  gone : ∃ t, mg "GONE" = some (.str GONE t)
  shut : ∃ t, mg "SHUT" = some (.str SHUT t)
  len : mg "len" = none
  range : mg "range" = none
  sorted : mg "sorted" = none
  list : mg "list" = none
  tuple : mg "tuple" = none
  isinstance : mg "isinstance" = none
  str : mg "str" = none
  int : mg "int" = none
  bool : mg "bool" = none
  max : mg "max" = none
  min : mg "min" = none

/-! ### promises -/
def spByWay : Sp := fun vs H Q _ => ∃ (v : V) (es : List Ent), vs = [v] ∧ PaneV H v es ∧ (es.map (·.1)).Nodup ∧ es.length ≤ 1000 ∧ ∀ (H' : Hp) (d : Addr), Same H H' → H d = none → DictR ThV H' d es → Q (.ref d) H'
def spCovered : Sp := fun vs H Q _ => ∃ (d : Addr) (es : List Ent) (v : V) (w : Way), vs = [.ref d, v] ∧ DictR ThV H d es ∧ WV H v w ∧ w.length ≤ 1000 ∧ ∀ H' : Hp, Same H H' → Q (.bl (covM es w)) H'
section
variable {P : Program} {w : World} {K : PySem.W.Frag} {mg : Str → Option Value} {base : Heap}
theorem sc_by_way : FnScope ["entries", "things", "entry"] ["entries"] (defScope sByWay) := ⟨rfl, rfl, rfl, by decide +kernel, rfl, by decide +kernel, by decide +kernel⟩
theorem ok_by_way {f : Addr} {fd : FuncData} (F : Fun K "by_way" "by_way" sByWay f fd) : FnOk P w K mg base CX0 1 f fd ["entries"] spByWay := by
  refine F.ok sc_by_way (fun vs H Q E h => ?_) (fun cdv A outer s H vs Q E hr h => ?_)
  · obtain ⟨v, es, rfl, _⟩ := h
    rfl
  · obtain ⟨v, es, rfl, hP, nd, hl, k⟩ := h
    obtain ⟨l, rs, rfl, hL, hE⟩ := hP
    refine ⟨_, pss_cons (ps_set (i := 1) sc_by_way.nd rfl (Or.inl rfl) pe_dnewT)
      (pss_cons (ps_for PassesOwn.never rfl (pi_list (pv 0)) (pg_name (i := 2) sc_by_way.nd rfl (Or.inl rfl))
        (pss_one (ps_dput (hu_of hr) (pv 1) (pe_ix ix_tup (pv 2) pe_int (fun _ _ => rfl)) (pe_tup (pa_cons (pe_ix ix_tup (pv 2) pe_int (fun _ _ => rfl)) (pa_cons (pe_ix ix_tup (pv 2) pe_int (fun _ _ => rfl)) pa_nil))) rfl)))
      (pss_one (ps_ret (pv 1)))), ?_⟩
    intro d hd
    have s0 : Same H (upd H d (.dT [])) := same_new hd
    refine ⟨_, rfl, l, rfl, ⟨_, SqL.of (s0 _ _ hL)⟩, for_list (K := K) (a := l) (xs := rs) (fun i σ H' => ∃ v : Option V, σ = [some (.ref l), some (.ref d), v] ∧ Same H H' ∧ DictR ThV H' d (es.take i))
      ⟨none, rfl, s0, dict_new⟩ (fun i σ H' _ ⟨_, _, s1, _⟩ => SqL.of (s1 _ _ hL)) ?_ ?_⟩
    · rintro i x σ H1 hi ⟨v, rfl, s1, D⟩
      obtain ⟨e, he, hx⟩ := each_get hE hi
      obtain ⟨a, b, rfl, ha, hb⟩ := hx.tst (tst_of s1)
      -- things[entry[0]] = (entry[1], entry[2])
      refine ⟨_, rfl, a, _, _, _, rfl, rfl, SqT.of ha, rfl, _, rfl, a, _, _, _, rfl, rfl, SqT.of ha, rfl, (by show 2 ≤ sizeLine; decide), fun p hp => ?_⟩
      have s2 : Same H1 (upd H1 p (.tup [.str e.2.1, .str e.2.2])) := same_new hp
      refine ⟨_, rfl, _, rfl, a, _, _, _, rfl, rfl, SqT.of (s2 _ _ ha), rfl, ?_⟩
      have ln : look (es.take i) e.1 = none := by
        rw [look_none]
        intro f hf q
        obtain ⟨j, hj, ej⟩ := List.getElem_of_mem hf
        rw [List.length_take] at hj
        have hji : j < i := by omega
        have hjl : j < es.length := by omega
        rw [List.getElem_take] at ej
        have h1 : (es.map (·.1))[j]? = some e.1 := by rw [List.getElem?_map, List.getElem?_eq_getElem hjl, ej, Option.map_some, q]
        have h2 : (es.map (·.1))[i]? = some e.1 := by rw [List.getElem?_map, he, Option.map_some]
        have := nd_ix nd h1 h2
        omega
      obtain ⟨o, g, D', _⟩ := (D.same mono_th s2).put mono_th (s2 _ _ hb) ln (t := e.2) ⟨p, rfl, upd_same⟩ (by rw [List.length_take]; exact Nat.lt_of_le_of_lt (Nat.le_trans (Nat.min_le_right _ _) hl) (by decide))
      refine ⟨d, _, rfl, g, some (.ref a), rfl, same_upd (s1.trans s2) hd, ?_⟩
      rw [List.take_succ, he]
      exact D'
    · rintro σ H1 ⟨v, rfl, s1, D⟩
      rw [hE.length, List.take_length] at D
      exact ⟨_, rfl, k H1 d s1 hd D⟩
/-! ### small words -/
theorem cut_lt {xs : List V} {i : Nat} {z : Int} (hz : z = (i : Int)) (h : i < xs.length) : ¬ (HT.sIx xs.length 0 none = 0 ∧ HT.sIx xs.length xs.length (some z) = xs.length) := by
  subst hz
  rw [HT.sIx_nat]
  rintro ⟨_, q⟩
  rw [Nat.min_eq_left (Nat.le_of_lt h)] at q
  omega
theorem cut_take {xs : List V} {i : Nat} {z : Int} (hz : z = (i : Int)) (h : i < xs.length) : cutV xs none (some z) = xs.take i := by
  subst hz
  unfold cutV
  rw [HT.sIx_nat, HT.sIx_none, Nat.min_eq_left (Nat.le_of_lt h), List.drop_zero, Nat.sub_zero]
theorem way_cut {H : Hp} {p : Addr} {w : Way} {i : Nat} {z : Int} (hz : z = (i : Int)) (h : i < w.length) : WayAt (upd H p (.tup (cutV (w.map V.str) none (some z)))) p (w.take i) := by
  unfold WayAt
  rw [upd_same, cut_take hz (by rw [List.length_map]; exact h), List.map_take]
theorem len_small {n : Nat} (h : n ≤ 1000) : -(2 ^ 62) ≤ (n : Int) ∧ (n : Int) < 2 ^ 62 := ⟨by omega, by omega⟩
theorem cov_true {es : List Ent} {w : Way} {k : Nat} {t : Thing} (hk : k < w.length) (e : look es (w.take k) = some t) (n : t.1 ≠ FOLDER) : covM es w = true := covM_iff.mpr ⟨k, hk, t, e, n⟩
theorem cov_false {es : List Ent} {w : Way} (h : ∀ k, k < w.length → ∀ t, look es (w.take k) = some t → t.1 = FOLDER) : covM es w = false := by
  cases q : covM es w with
  | false => rfl
  | true =>
    obtain ⟨k, hk, t, e, n⟩ := covM_iff.mp q
    exact absurd (h k hk t e) n
theorem str_ne {a b : Str} (h : a ≠ b) : V.str a ≠ V.str b := fun q => h (by injection q)
/-- a name of the module that holds a text -/
theorem pe_mark {X : Cx} {x m : Str} {pos : Pos} (hg : Gl X x) (hm : ∃ t, X.mg x = some (.str m t)) (hd : (x == ("__debug__" : Str)) = false := by decide) : PE X (.Name x pos) (tC (.str m)) := by
  obtain ⟨t, e⟩ := hm
  exact pe_glob hg e ⟨t, rfl⟩ hd
/-! ### covered -/
theorem sc_covered : FnScope ["things", "way", "k", "over"] ["things", "way"] (defScope sCovered) := ⟨rfl, rfl, rfl, by decide +kernel, rfl, by decide +kernel, by decide +kernel⟩
theorem ok_covered {f : Addr} {fd : FuncData} (F : Fun K "covered" "covered" sCovered f fd) (T : Txt mg) : FnOk P w K mg base CX0 1 f fd ["things", "way"] spCovered := by
  refine F.ok sc_covered (fun vs H Q E h => ?_) (fun cdv A outer s H vs Q E hr h => ?_)
  · obtain ⟨d, es, v, w, rfl, _⟩ := h
    rfl
  · obtain ⟨d, es, v, w, rfl, D, hW, hl, k⟩ := h
    obtain ⟨b, rfl, hb⟩ := hW
    refine ⟨_, pss_cons (ps_for PassesOwn.never rfl (pi_range1 rfl T.range (pa_cons (pe_callB call_len_seq (by rfl) T.len PySem.boot_len (pa_cons (pv 1) pa_nil)) pa_nil)) (pg_name (i := 2) sc_covered.nd rfl (Or.inl rfl))
        (pss_cons (ps_set (i := 3) sc_covered.nd rfl (Or.inl rfl) (pe_slice sl_tupA (pv 1) po_none (po_some (pv 2))))
          (pss_one (ps_if (PW.pt (pw_and (pt_cmp (pc_din (hu_of hr) (pv 3) (pv 0)) (by rfl)) (pw_and1 (pt_cmpR op_ne (pe_ix ix_tup (pe_dget (hu_of hr) (pv 0) (pv 3) (fun _ _ => rfl)) pe_int (fun _ _ => rfl)) (pe_mark rfl T.folder) (nomark _)))))
            (pss_one (ps_ret pe_bl)) pss_nil))))
      (pss_one (ps_ret pe_bl)), ?_⟩
    have hlen : (w.map V.str).length = w.length := List.length_map ..
    refine ⟨_, rfl, b, _, rfl, .inr (SqT.of hb), _, rfl, (len_small (by rw [hlen]; exact hl)).1, (len_small (by rw [hlen]; exact hl)).2, ?_⟩
    show ∃ W : Nat → Nat → L2.St → Hp → Prop, _
    refine for_range (lo := 0) (n := ((w.map V.str).length : Int).toNat) (fun i σ H' => ∃ v2 v3 : Option V, σ = [some (.ref d), some (.ref b), v2, v3] ∧ Same H H' ∧ ∀ j, j < i → j < w.length → ∀ t, look es (w.take j) = some t → t.1 = FOLDER)
      ⟨none, none, rfl, Same.refl _, fun j h => absurd h (Nat.not_lt_zero _)⟩ ?_ ?_
    · rintro i σ H1 hi ⟨v2, v3, rfl, s1, hn⟩
      have hi' : i < w.length := by rw [Int.toNat_natCast, hlen] at hi; exact hi
      have hz : (0 : Int) + (i : Nat) = (i : Int) := Int.zero_add _
      refine ⟨_, rfl, _, rfl, _, rfl, b, _, rfl, SqT.of (s1 _ _ hb), fun q => absurd q (cut_lt hz (by rw [hlen]; exact hi')), fun _ p hp => ?_⟩
      have s2 : Same H1 (upd H1 p (.tup (cutV (w.map V.str) none (some ((0 : Int) + (i : Nat)))))) := same_new hp
      have hw := way_cut (H := H1) (p := p) hz hi'
      have D2 := (D.same mono_th s1).same mono_th s2
      cases e : look es (w.take i) with
      | none =>
        refine ⟨_, rfl, _, rfl, d, _, rfl, D2.none_ hw e, _, rfl, iteF (iteF ⟨_, _, rfl, s1.trans s2, fun j hj hjw t q => ?_⟩)⟩
        by_cases hji : j = i
        · subst hji; rw [e] at q; cases q
        · exact hn j (by omega) hjw t q
      | some t =>
        obtain ⟨v, g, a, rfl, ha⟩ := D2.some_ hw e
        refine ⟨_, rfl, _, rfl, d, _, rfl, g, _, rfl, iteT ⟨_, rfl, _, rfl, d, _, rfl, g, a, _, _, _, rfl, rfl, SqT.of ha, rfl, rfl, _, rfl, ?_⟩⟩
        by_cases c : t.1 = FOLDER
        · rw [c, decide_eq_true rfl]
          refine iteF ⟨_, _, rfl, s1.trans s2, fun j hj hjw t' q => ?_⟩
          by_cases hji : j = i
          · subst hji
            rw [e] at q
            rw [← Option.some.inj q]
            exact c
          · exact hn j (by omega) hjw t' q
        · rw [decide_eq_false (str_ne c)]
          refine iteT ?_
          have z := k _ (s1.trans s2)
          rw [cov_true hi' e c] at z
          exact z
    · rintro σ H1 ⟨v2, v3, rfl, s1, hn⟩
      have z := k _ s1
      rw [cov_false fun j hj t q => hn j (by rw [Int.toNat_natCast, hlen]; exact hj) hj t q] at z
      exact z
end
end GL

/-! G4: joins, shut_above, hung_at. -/
namespace GL
open PySem PySem.Spec PyProof.Rows L2
open PySem.W (EachIs)
def OptV {T : Type} (R : V → T → Prop) (r : V) : Option T → Prop
  | none => r = .non
  | some t => R r t
def spJoins : Sp := fun vs H Q _ => ∃ m : Str, vs = [.str m] ∧ ∀ H' : Hp, Same H H' → Q (.bl (joinsM m)) H'
def spShutAbove : Sp := fun vs H Q _ => ∃ (d : Addr) (es : List Ent) (v : V) (w : Way), vs = [.ref d, v] ∧ DictR ThV H d es ∧ WV H v w ∧ w.length ≤ 1000 ∧ ∀ (H' : Hp) (r : V), Same H H' → OptV (WV H') r (shutM es w) → Q r H'
/-- two ways, or none -/
def HungV (H : Hp) (r : V) (h : Way × Way) : Prop := ∃ a va vb, r = .ref a ∧ H a = some (.tup [va, vb]) ∧ WV H va h.1 ∧ WV H vb h.2
def spHungAt : Sp := fun vs H Q _ => ∃ (d1 d2 : Addr) (A B : List Ent) (v : V) (w : Way), vs = [.ref d1, .ref d2, v] ∧ DictR ThV H d1 A ∧ DictR ThV H d2 B ∧ WV H v w ∧ w.length ≤ 1000 ∧ ((∃ t, look A w = some t) ∨ ∃ t, look B w = some t) ∧
  ∀ (H' : Hp) (r : V), Same H H' → OptV (HungV H') r (hungM A B w) → Q r H'
theorem shut_at {es : List Ent} {w : Way} {k : Nat} {t : Thing} (hk : k < w.length) (e : look es (w.take k) = some t) (c : t.1 = SHUT) (hn : ∀ j, j < k → j < w.length → ∀ t, look es (w.take j) = some t → t.1 ≠ SHUT) : shutM es w = some (w.take k) := by
  unfold shutM
  have key : ∀ n, k < n → (List.range n).findSome? (fun k => match look es (w.take k) with
    | some t => if t.1 = SHUT then some (w.take k) else none
    | none => none) = some (w.take k) := by
    intro n hkn
    obtain ⟨m, rfl⟩ : ∃ m, n = k + 1 + m := ⟨n - (k + 1), by omega⟩
    rw [List.range_add, List.findSome?_append, List.range_succ, List.findSome?_append]
    have h0 : (List.range k).findSome? (fun k => match look es (w.take k) with
      | some t => if t.1 = SHUT then some (w.take k) else none
      | none => none) = none := by
      rw [List.findSome?_eq_none_iff]
      intro j hj
      have hjk := List.mem_range.mp hj
      cases q : look es (w.take j) with
      | none => rfl
      | some t' =>
        dsimp only
        rw [if_neg (hn j hjk (by omega) t' q)]
    rw [h0]
    simp [e, c]
  exact key _ hk
theorem shut_no {es : List Ent} {w : Way} (hn : ∀ j, j < w.length → ∀ t, look es (w.take j) = some t → t.1 ≠ SHUT) : shutM es w = none := by
  unfold shutM
  rw [List.findSome?_eq_none_iff]
  intro j hj
  have hjk := List.mem_range.mp hj
  cases q : look es (w.take j) with
  | none => rfl
  | some t' =>
    dsimp only
    rw [if_neg (hn j hjk t' q)]
section
variable {P : Program} {w : World} {K : PySem.W.Frag} {mg : Str → Option Value} {base : Heap}
theorem sc_joins : FnScope ["mark"] ["mark"] (defScope sJoins) := ⟨rfl, rfl, rfl, by decide +kernel, rfl, by decide +kernel, by decide +kernel⟩
theorem ok_joins {f : Addr} {fd : FuncData} (F : Fun K "joins" "joins" sJoins f fd) (T : Txt mg) : FnOk P w K mg base CX0 1 f fd ["mark"] spJoins := by
  refine F.ok sc_joins (fun vs H Q E h => ?_) (fun cdv A outer s H vs Q E hr h => ?_)
  · obtain ⟨m, rfl, _⟩ := h
    rfl
  · obtain ⟨m, rfl, k⟩ := h
    refine ⟨_, pss_one (ps_ret (pe_cmpR op_in_seq (pv 0) (pe_tup (pa_cons (pe_mark rfl T.folder) (pa_cons (pe_mark rfl T.shut) pa_nil))) (by rfl))), ?_⟩
    refine ⟨_, rfl, (by show 2 ≤ sizeLine; decide), fun p hp => ?_⟩
    refine ⟨p, _, rfl, .inr (SqT.of upd_same), rfl, rfl, ?_⟩
    have z := k (upd H p (.tup [.str FOLDER, .str SHUT])) (same_new hp)
    have e : joinsM m = inV (.str m) [.str FOLDER, .str SHUT] := by
      unfold joinsM inV
      show _ = ((FOLDER == m) || ((SHUT == m) || false))
      rw [Bool.or_false]
      congr 1
      · by_cases q : m = FOLDER
        · rw [q]; simp
        · rw [decide_eq_false q]; exact (beq_eq_false_iff_ne.mpr fun z => q z.symm).symm
      · by_cases q : m = SHUT
        · rw [q]; simp
        · rw [decide_eq_false q]; exact (beq_eq_false_iff_ne.mpr fun z => q z.symm).symm
    rw [e] at z
    exact z
theorem sc_shut_above : FnScope ["things", "way", "k", "over"] ["things", "way"] (defScope sShutAbove) := ⟨rfl, rfl, rfl, by decide +kernel, rfl, by decide +kernel, by decide +kernel⟩
theorem ok_shut_above {f : Addr} {fd : FuncData} (F : Fun K "shut_above" "shut_above" sShutAbove f fd) (T : Txt mg) : FnOk P w K mg base CX0 1 f fd ["things", "way"] spShutAbove := by
  refine F.ok sc_shut_above (fun vs H Q E h => ?_) (fun cdv A outer s H vs Q E hr h => ?_)
  · obtain ⟨d, es, v, w, rfl, _⟩ := h
    rfl
  · obtain ⟨d, es, v, w, rfl, D, hW, hl, k⟩ := h
    obtain ⟨b, rfl, hb⟩ := hW
    refine ⟨_, pss_cons (ps_for PassesOwn.never rfl (pi_range1 rfl T.range (pa_cons (pe_callB call_len_seq (by rfl) T.len PySem.boot_len (pa_cons (pv 1) pa_nil)) pa_nil)) (pg_name (i := 2) sc_shut_above.nd rfl (Or.inl rfl))
        (pss_cons (ps_set (i := 3) sc_shut_above.nd rfl (Or.inl rfl) (pe_slice sl_tupA (pv 1) po_none (po_some (pv 2))))
          (pss_one (ps_if (PW.pt (pw_and (pt_cmp (pc_din (hu_of hr) (pv 3) (pv 0)) (by rfl)) (pw_and1 (pt_cmpR op_eq (pe_ix ix_tup (pe_dget (hu_of hr) (pv 0) (pv 3) (fun _ _ => rfl)) pe_int (fun _ _ => rfl)) (pe_mark rfl T.shut) (nomark _)))))
            (pss_one (ps_ret (pv 3))) pss_nil))))
      (pss_one (ps_ret pe_non)), ?_⟩
    have hlen : (w.map V.str).length = w.length := List.length_map ..
    refine ⟨_, rfl, b, _, rfl, .inr (SqT.of hb), _, rfl, (len_small (by rw [hlen]; exact hl)).1, (len_small (by rw [hlen]; exact hl)).2, ?_⟩
    refine for_range (lo := 0) (n := ((w.map V.str).length : Int).toNat) (fun i σ H' => ∃ v2 v3 : Option V, σ = [some (.ref d), some (.ref b), v2, v3] ∧ Same H H' ∧ ∀ j, j < i → j < w.length → ∀ t, look es (w.take j) = some t → t.1 ≠ SHUT)
      ⟨none, none, rfl, Same.refl _, fun j h => absurd h (Nat.not_lt_zero _)⟩ ?_ ?_
    · rintro i σ H1 hi ⟨v2, v3, rfl, s1, hn⟩
      have hi' : i < w.length := by rw [Int.toNat_natCast, hlen] at hi; exact hi
      have hz : (0 : Int) + (i : Nat) = (i : Int) := Int.zero_add _
      refine ⟨_, rfl, _, rfl, _, rfl, b, _, rfl, SqT.of (s1 _ _ hb), fun q => absurd q (cut_lt hz (by rw [hlen]; exact hi')), fun _ p hp => ?_⟩
      have s2 : Same H1 (upd H1 p (.tup (cutV (w.map V.str) none (some ((0 : Int) + (i : Nat)))))) := same_new hp
      have hw := way_cut (H := H1) (p := p) hz hi'
      have D2 := (D.same mono_th s1).same mono_th s2
      cases e : look es (w.take i) with
      | none =>
        refine ⟨_, rfl, _, rfl, d, _, rfl, D2.none_ hw e, _, rfl, iteF (iteF ⟨_, _, rfl, s1.trans s2, fun j hj hjw t q => ?_⟩)⟩
        by_cases hji : j = i
        · subst hji; rw [e] at q; cases q
        · exact hn j (by omega) hjw t q
      | some t =>
        obtain ⟨v, g, a, rfl, ha⟩ := D2.some_ hw e
        refine ⟨_, rfl, _, rfl, d, _, rfl, g, _, rfl, iteT ⟨_, rfl, _, rfl, d, _, rfl, g, a, _, _, _, rfl, rfl, SqT.of ha, rfl, rfl, _, rfl, ?_⟩⟩
        by_cases c : t.1 = SHUT
        · rw [c, decide_eq_true rfl]
          refine iteT ⟨_, rfl, k _ _ (s1.trans s2) ?_⟩
          rw [shut_at hi' e c hn]
          exact ⟨p, rfl, hw⟩
        · rw [decide_eq_false (str_ne c)]
          refine iteF ⟨_, _, rfl, s1.trans s2, fun j hj hjw t' q => ?_⟩
          by_cases hji : j = i
          · subst hji
            rw [e] at q
            rw [← Option.some.inj q]
            exact c
          · exact hn j (by omega) hjw t' q
    · rintro σ H1 ⟨v2, v3, rfl, s1, hn⟩
      refine k _ _ s1 ?_
      rw [shut_no fun j hj t q => hn j (by rw [Int.toNat_natCast, hlen]; exact hj) hj t q]
      rfl
theorem sc_hung_at : FnScope ["ones", "others", "way", "over"] ["ones", "others", "way"] (defScope sHungAt) := ⟨rfl, rfl, rfl, by decide +kernel, rfl, by decide +kernel, by decide +kernel⟩
theorem ok_hung_at {f fJ fS : Addr} {fd fdJ fdS : FuncData} (F : Fun K "hung_at" "hung_at" sHungAt f fd) (T : Txt mg) (FJ : Fun K "joins" "joins" sJoins fJ fdJ) (bJ : Binds K fdJ ["mark"] []) (gJ : mg "joins" = some (.ref fJ))
    (FS : Fun K "shut_above" "shut_above" sShutAbove fS fdS) (bS : Binds K fdS ["things", "way"] []) (gS : mg "shut_above" = some (.ref fS)) : FnOk P w K mg base CX0 2 f fd ["ones", "others", "way"] spHungAt := by
  have GJ : FnOk P w K mg base CX0 1 fJ fdJ ["mark"] spJoins := ok_joins FJ T
  have GS : FnOk P w K mg base CX0 1 fS fdS ["things", "way"] spShutAbove := ok_shut_above FS T
  refine F.ok sc_hung_at (fun vs H Q E h => ?_) (fun cdv A outer s H vs Q E hr h => ?_)
  · obtain ⟨d1, d2, A, B, v, w, rfl, _⟩ := h
    rfl
  · obtain ⟨d1, d2, A, B, v, w, rfl, D1, D2, hW, hl, hu, k⟩ := h
    have hW0 := hW
    obtain ⟨b, rfl, hb⟩ := hW
    refine ⟨_, pss_cons (ps_if (PW.pt (pw_and (pt_cmp (pc_din (hu_of hr) (pv 2) (pv 0)) (by rfl)) (pw_and1 (pt_cmp (pc_din (hu_of hr) (pv 2) (pv 1)) (by rfl)))))
        (pss_cons (ps_if (PW.pt (pw_or (pt_cmpR (op_eqA hr.units) (pe_dget (hu_of hr) (pv 0) (pv 2) (fun _ _ => rfl)) (pe_dget (hu_of hr) (pv 1) (pv 2) (fun _ _ => rfl)) (nomark _))
            (pw_or1 (PW.pt (pw_and (pt_val (pe_call GJ hr rfl gJ FJ.kp bJ .nil pass0 (pa_cons (pe_ix ix_tup (pe_dget (hu_of hr) (pv 0) (pv 2) (fun _ _ => rfl)) pe_int (fun _ _ => rfl)) pa_nil)))
              (pw_and1 (pt_val (pe_call GJ hr rfl gJ FJ.kp bJ .nil pass0 (pa_cons (pe_ix ix_tup (pe_dget (hu_of hr) (pv 1) (pv 2) (fun _ _ => rfl)) pe_int (fun _ _ => rfl)) pa_nil)))))))))
            (pss_one (ps_ret pe_non)) pss_nil)
          (pss_one (ps_ret (pe_tup (pa_cons (pv 2) (pa_cons (pv 2) pa_nil)))))) pss_nil)
      (pss_cons (ps_if (pt_cmp (pc_din (hu_of hr) (pv 2) (pv 0)) (by rfl))
        (pss_cons (ps_set (i := 3) sc_hung_at.nd rfl (Or.inl rfl) (pe_call GS hr rfl gS FS.kp bS .nil pass0 (pa_cons (pv 1) (pa_cons (pv 2) pa_nil))))
          (pss_cons (ps_if (PW.pt (pw_or (pt_cmp (pc_isN (pv 3))) (pw_or1 (pt_cmpR op_eq (pe_ix ix_tup (pe_dget (hu_of hr) (pv 0) (pv 2) (fun _ _ => rfl)) pe_int (fun _ _ => rfl)) (pe_mark rfl T.gone) (nomark _)))))
            (pss_one (ps_ret pe_non)) pss_nil)
          (pss_one (ps_ret (pe_tup (pa_cons (pv 2) (pa_cons (pv 3) pa_nil))))))) pss_nil)
      (pss_cons (ps_set (i := 3) sc_hung_at.nd rfl (Or.inl rfl) (pe_call GS hr rfl gS FS.kp bS .nil pass0 (pa_cons (pv 0) (pa_cons (pv 2) pa_nil))))
      (pss_cons (ps_if (PW.pt (pw_or (pt_cmp (pc_isN (pv 3))) (pw_or1 (pt_cmpR op_eq (pe_ix ix_tup (pe_dget (hu_of hr) (pv 1) (pv 2) (fun _ _ => rfl)) pe_int (fun _ _ => rfl)) (pe_mark rfl T.gone) (nomark _)))))
            (pss_one (ps_ret pe_non)) pss_nil)
          (pss_one (ps_ret (pe_tup (pa_cons (pv 3) (pa_cons (pv 2) pa_nil)))))))), ?_⟩
    cases qa : look A w with
    | some a =>
      obtain ⟨va, ga, aa, rfl, haa⟩ := D1.some_ hb qa
      cases qb : look B w with
      | some b' =>
        obtain ⟨vb, gb, ab, rfl, hab⟩ := D2.some_ hb qb
        -- way in ones and way in others
        refine ⟨_, rfl, _, rfl, d1, _, rfl, ga, _, rfl, iteT ⟨_, rfl, _, rfl, d2, _, rfl, gb, _, rfl, iteT ?_⟩⟩
        -- ones[way] == others[way]
        refine ⟨_, rfl, _, rfl, d1, _, rfl, ga, _, rfl, _, rfl, d2, _, rfl, gb, _, _, ThV.dp ⟨aa, rfl, haa⟩, ThV.dp ⟨ab, rfl, hab⟩, rfl, alike_th a b', (by simp [PyData.depth, PyData.depthAll]), _, rfl, ?_⟩
        rw [eqv_th]
        by_cases c : a = b'
        · rw [decide_eq_true c]
          refine iteT (iteT (k _ _ (Same.refl _) ?_))
          unfold hungM
          rw [qa, qb]
          dsimp only
          rw [if_pos (.inl c)]
          rfl
        · rw [decide_eq_false c]
          refine iteF ⟨_, rfl, _, rfl, d1, _, rfl, ga, aa, _, _, _, rfl, rfl, SqT.of haa, rfl, _, rfl, fun H1 s1 => ?_⟩
          refine ⟨_, rfl, ?_⟩
          have tail : ∀ (H2 : Hp), Same H H2 → ¬ (joinsM a.1 = true ∧ joinsM b'.1 = true) → ∃ v, [some (V.ref d1), some (.ref d2), some (.ref b), none][2]? = some (some v) ∧ ∃ u, [some (V.ref d1), some (.ref d2), some (.ref b), none][2]? = some (some u) ∧
              [v, u].length ≤ sizeLine ∧ ∀ p, H2 p = none → Q (.ref p) (upd H2 p (.tup [v, u])) := by
            intro H2 s2 nj
            refine ⟨_, rfl, _, rfl, (by show 2 ≤ sizeLine; decide), fun p hp => k _ _ (s2.trans (same_new hp)) ?_⟩
            unfold hungM
            rw [qa, qb]
            dsimp only
            rw [if_neg (by rintro (z | z); exact c z; exact nj z)]
            have hb2 : WayAt (upd H2 p (.tup [.ref b, .ref b])) b w := same_new hp _ _ (s2 _ _ hb)
            exact ⟨p, _, _, rfl, upd_same, ⟨b, rfl, hb2⟩, ⟨b, rfl, hb2⟩⟩
          cases ja : joinsM a.1 with
          | false =>
            refine iteF (iteF ?_)
            exact tail H1 s1 (by rw [ja]; rintro ⟨z, _⟩; cases z)
          | true =>
            have gb1 := (D2.same mono_th s1).some_ (s1 _ _ hb) qb
            obtain ⟨vb, gb1, ab', rfl, hab'⟩ := gb1
            refine iteT ⟨_, rfl, _, rfl, d2, _, rfl, gb1, ab', _, _, _, rfl, rfl, SqT.of hab', rfl, _, rfl, fun H2 s2 => ?_⟩
            refine ⟨_, rfl, ?_⟩
            cases jb : joinsM b'.1 with
            | false =>
              refine iteF ?_
              exact tail H2 (s1.trans s2) (by rw [jb]; rintro ⟨_, z⟩; cases z)
            | true =>
              refine iteT (k _ _ (s1.trans s2) ?_)
              unfold hungM
              rw [qa, qb]
              dsimp only
              rw [if_pos (.inr ⟨ja, jb⟩)]
              rfl
      | none =>
        have gb := D2.none_ hb qb
        refine ⟨_, rfl, _, rfl, d1, _, rfl, ga, _, rfl, iteT ⟨_, rfl, _, rfl, d2, _, rfl, gb, _, rfl, iteF ?_⟩⟩
        -- way in ones
        refine ⟨_, rfl, _, rfl, d1, _, rfl, ga, _, rfl, iteT ?_⟩
        refine ⟨_, rfl, _, rfl, d2, B, .ref b, w, rfl, D2, ⟨b, rfl, hb⟩, hl, fun H1 r s1 ho => ?_⟩
        have hm : hungM A B w = (match shutM B w with
          | none => none
          | some o => if a.1 = GONE then none else some (w, o)) := by
          unfold hungM
          rw [qa, qb] <;> rfl
        cases qs : shutM B w with
        | none =>
          rw [qs] at ho hm
          have e : r = .non := ho
          subst e
          refine ⟨_, rfl, _, rfl, ?_⟩
          refine iteT (iteT (k _ _ s1 ?_))
          rw [hm]
          rfl
        | some o =>
          rw [qs] at ho hm
          obtain ⟨p, rfl, hp⟩ := ho
          obtain ⟨va, ga1, a1, rfl, ha1⟩ := (D1.same mono_th s1).some_ (s1 _ _ hb) qa
          refine ⟨_, rfl, _, rfl, iteF ?_⟩
          refine ⟨_, rfl, _, rfl, d1, _, rfl, ga1, a1, _, _, _, rfl, rfl, SqT.of ha1, rfl, rfl, _, rfl, ?_⟩
          by_cases c : a.1 = GONE
          · rw [c, decide_eq_true rfl]
            refine iteT (k _ _ s1 ?_)
            rw [hm]
            dsimp only
            rw [if_pos c]
            rfl
          · rw [decide_eq_false (str_ne c)]
            refine iteF ⟨_, rfl, _, rfl, (by show 2 ≤ sizeLine; decide), fun q hq => k _ _ (s1.trans (same_new hq)) ?_⟩
            rw [hm]
            dsimp only
            rw [if_neg c]
            exact ⟨q, _, _, rfl, upd_same, ⟨b, rfl, same_new hq _ _ (s1 _ _ hb)⟩, ⟨p, rfl, same_new hq _ _ hp⟩⟩
    | none =>
      have ga := D1.none_ hb qa
      obtain ⟨b', qb⟩ : ∃ t, look B w = some t := by
        rcases hu with ⟨t, e⟩ | h
        · rw [qa] at e; cases e
        · exact h
      refine ⟨_, rfl, _, rfl, d1, _, rfl, ga, _, rfl, iteF (iteF ?_)⟩
      refine ⟨_, rfl, _, rfl, d1, _, rfl, ga, _, rfl, iteF ?_⟩
      refine ⟨_, rfl, _, rfl, d1, A, .ref b, w, rfl, D1, ⟨b, rfl, hb⟩, hl, fun H1 r s1 ho => ?_⟩
      have hm : hungM A B w = (match shutM A w with
        | none => none
        | some o => if b'.1 = GONE then none else some (o, w)) := by
        unfold hungM
        rw [qa, qb] <;> rfl
      cases qs : shutM A w with
      | none =>
        rw [qs] at ho hm
        have e : r = .non := ho
        subst e
        refine ⟨_, rfl, _, rfl, ?_⟩
        refine iteT (iteT (k _ _ s1 ?_))
        rw [hm]
        rfl
      | some o =>
        rw [qs] at ho hm
        obtain ⟨p, rfl, hp⟩ := ho
        obtain ⟨va, ga1, a1, rfl, ha1⟩ := (D2.same mono_th s1).some_ (s1 _ _ hb) qb
        refine ⟨_, rfl, _, rfl, iteF ?_⟩
        refine ⟨_, rfl, _, rfl, d2, _, rfl, ga1, a1, _, _, _, rfl, rfl, SqT.of ha1, rfl, rfl, _, rfl, ?_⟩
        by_cases c : b'.1 = GONE
        · rw [c, decide_eq_true rfl]
          refine iteT (k _ _ s1 ?_)
          rw [hm]
          dsimp only
          rw [if_pos c]
          rfl
        · rw [decide_eq_false (str_ne c)]
          refine iteF ⟨_, rfl, _, rfl, (by show 2 ≤ sizeLine; decide), fun q hq => k _ _ (s1.trans (same_new hq)) ?_⟩
          rw [hm]
          dsimp only
          rw [if_neg c]
          exact ⟨q, _, _, rfl, upd_same, ⟨p, rfl, same_new hq _ _ hp⟩, ⟨b, rfl, same_new hq _ _ (s1 _ _ hb)⟩⟩
end
end GL

/-! G5: shown_entry, laid, seen, meet. -/
namespace GL
open PySem PySem.Spec PyProof.Rows L2
open PySem.W (EachIs)
theorem filt_succ {α : Type} {p : α → Bool} {t : List α} {i : Nat} {e : α} (h : t[i]? = some e) : (t.take (i + 1)).filter p = (t.take i).filter p ++ (if p e = true then [e] else []) := by
  rw [List.take_succ, h, List.filter_append]
  congr 1
  show List.filter p [e] = _
  rw [List.filter_cons]
  rfl
theorem fmap_succ {α β : Type} {f : α → Option β} {t : List α} {i : Nat} {e : α} (h : t[i]? = some e) : (t.take (i + 1)).filterMap f = (t.take i).filterMap f ++ (match f e with | some x => [x] | none => []) := by
  rw [List.take_succ, h, List.filterMap_append]
  congr 1
  show List.filterMap f [e] = _
  rw [List.filterMap_cons]
  cases f e <;> rfl
theorem find_at {α β : Type} {f : α → Option β} : ∀ {l : List α} {i : Nat} {a : α} {b : β}, l[i]? = some a → f a = some b → (∀ j, j < i → ∀ a', l[j]? = some a' → f a' = none) → l.findSome? f = some b
  | [], _, _, _, h, _, _ => by simp at h
  | x :: l, 0, a, b, h, e, _ => by
    simp only [List.getElem?_cons_zero] at h
    cases h
    rw [List.findSome?_cons, e]
  | x :: l, i + 1, a, b, h, e, hn => by
    simp only [List.getElem?_cons_succ] at h
    rw [List.findSome?_cons, hn 0 (Nat.succ_pos _) x rfl]
    exact find_at h e fun j hj a' q => hn (j + 1) (Nat.succ_lt_succ hj) a' (by simpa using q)
theorem find_no {α β : Type} {f : α → Option β} {l : List α} (hn : ∀ j, j < l.length → ∀ a', l[j]? = some a' → f a' = none) : l.findSome? f = none := by
  rw [List.findSome?_eq_none_iff]
  intro a ha
  obtain ⟨j, hj, e⟩ := List.getElem_of_mem ha
  exact hn j hj a (by rw [List.getElem?_eq_getElem hj, e])
def spShown : Sp := fun vs H Q _ => ∃ (v : V) (e : Ent), vs = [v] ∧ EntV H v e ∧ ∀ (H' : Hp) (r : V), Same H H' → OptV (EntV H') r (shownM e) → Q r H'
def spLaid : Sp := fun vs H Q _ => ∃ (v1 v2 : V) (A t : List Ent), vs = [v1, v2] ∧ PaneV H v1 A ∧ PaneV H v2 t ∧ PaneOk A ∧ (t.map (·.1)).Nodup ∧ (∀ e ∈ t, e.1.length ≤ 100) ∧ t.length ≤ 100000 ∧
  ∀ (H' : Hp) (r : V), Same H H' → PaneV H' r (laidM A t) → Q r H'
def spSeen : Sp := fun vs H Q _ => ∃ (v : V) (ps : List (List Ent)), vs = [v] ∧ PanesV H v ps ∧ (∀ p ∈ ps, PaneOk p) ∧ ps.length ≤ 100 ∧ ∀ (H' : Hp) (r : V), Same H H' → PaneV H' r (seenM ps) → Q r H'
def spMeet : Sp := fun vs H Q _ => ∃ (v1 v2 : V) (A B : List Ent), vs = [v1, v2] ∧ PaneV H v1 A ∧ PaneV H v2 B ∧ PaneOk A ∧ PaneOk B ∧ ∀ (H' : Hp) (r : V), Same H H' → PairV H' r (meetM A B) → Q r H'
/-- the names that the program's defs go by -/
theorem line_big {n : Nat} (h : n ≤ 200000) : n < sizeLine := Nat.lt_of_le_of_lt h (by decide)
theorem laid_short {p t : List Ent} (hp : ∀ e ∈ p, e.1.length ≤ 100) (ht : ∀ e ∈ t, e.1.length ≤ 100) : ∀ e ∈ laidM p t, e.1.length ≤ 100 := by
  intro e he
  rcases mem_laid.mp he with ⟨h, _⟩ | ⟨f, hf, q⟩
  · exact ht e h
  · rw [shown_way q]; exact hp f hf
theorem seen_short : ∀ (ps : List (List Ent)) (t : List Ent), (∀ p ∈ ps, PaneOk p) → (∀ e ∈ t, e.1.length ≤ 100) → ∀ e ∈ ps.foldl (fun t p => laidM p t) t, e.1.length ≤ 100
  | [], _, _, ht => ht
  | p :: ps, t, hp, ht => seen_short ps (laidM p t) (fun q hq => hp q (List.mem_cons_of_mem _ hq)) (laid_short (hp p List.mem_cons_self).short ht)
theorem seen_succ {ps : List (List Ent)} {i : Nat} {p : List Ent} (h : ps[i]? = some p) : seenM (ps.take (i + 1)) = laidM p (seenM (ps.take i)) := by
  unfold seenM
  rw [List.take_succ, h, List.foldl_append]
  rfl
theorem seen_facts {ps : List (List Ent)} (hp : ∀ p ∈ ps, PaneOk p) (hl : ps.length ≤ 100) (i : Nat) : ((seenM (ps.take i)).map (·.1)).Nodup ∧ (∀ e ∈ seenM (ps.take i), e.1.length ≤ 100) ∧ (seenM (ps.take i)).length ≤ 500 := by
  have hp' : ∀ p ∈ ps.take i, PaneOk p := fun p h => hp p (List.mem_of_mem_take h)
  refine ⟨seen_nd _ [] hp' (by simp), seen_short _ [] hp' (by simp), ?_⟩
  have h1 := seen_length (ps.take i) [] 5 fun p h => (hp' p h).few
  have h2 : (ps.take i).length ≤ 100 := by rw [List.length_take]; omega
  have h3 : (ps.take i).length * 5 ≤ 500 := by omega
  unfold seenM
  rw [List.length_nil] at h1
  omega
section
variable {P : Program} {w : World} {K : PySem.W.Frag} {mg : Str → Option Value} {base : Heap}
theorem sc_shown : FnScope ["entry"] ["entry"] (defScope sShownEntry) := ⟨rfl, rfl, rfl, by decide +kernel, rfl, by decide +kernel, by decide +kernel⟩
theorem ok_shown {f : Addr} {fd : FuncData} (F : Fun K "shown_entry" "shown_entry" sShownEntry f fd) (T : Txt mg) : FnOk P w K mg base CX0 1 f fd ["entry"] spShown := by
  refine F.ok sc_shown (fun vs H Q E h => ?_) (fun cdv A outer s H vs Q E hr h => ?_)
  · obtain ⟨v, e, rfl, _⟩ := h
    rfl
  · obtain ⟨v, e, rfl, hE, k⟩ := h
    have hE0 := hE
    obtain ⟨a, b, rfl, ha, hb⟩ := hE
    refine ⟨_, pss_cons (ps_if (PW.pt (pw_or (pt_cmpR op_eq (pe_ix ix_tup (pv 0) pe_int (fun _ _ => rfl)) (pe_mark rfl T.file) (nomark _)) (pw_or1 (pt_cmpR op_eq (pe_ix ix_tup (pv 0) pe_int (fun _ _ => rfl)) (pe_mark rfl T.link) (nomark _)))))
        (pss_one (ps_ret (pv 0))) pss_nil)
      (pss_cons (ps_if (PW.pt (pw_or (pt_cmpR op_eq (pe_ix ix_tup (pv 0) pe_int (fun _ _ => rfl)) (pe_mark rfl T.gone) (nomark _)) (pw_or1 (pt_cmpR (op_eqA hr.units) (pe_ix ix_tup (pv 0) pe_int (fun _ _ => rfl)) (pe_tup pa_nil) (nomark _)))))
        (pss_one (ps_ret pe_non)) pss_nil)
      (pss_one (ps_ret (pe_tup (pa_cons (pe_ix ix_tup (pv 0) pe_int (fun _ _ => rfl)) (pa_cons (pe_mark rfl T.folder) (pa_cons pe_str pa_nil))))))), ?_⟩
    refine ⟨_, rfl, a, _, _, _, rfl, rfl, SqT.of ha, rfl, rfl, _, rfl, ?_⟩
    have go1 : e.2.1 = FILE ∨ e.2.1 = LINK → OptV (EntV H) (.ref a) (shownM e) := by
      intro c
      unfold shownM
      rw [if_pos c]
      exact hE0
    by_cases c1 : e.2.1 = FILE
    · rw [c1, decide_eq_true rfl]
      exact iteT (iteT ⟨_, rfl, k _ _ (Same.refl _) (go1 (.inl c1))⟩)
    rw [decide_eq_false (str_ne c1)]
    refine iteF ⟨_, rfl, a, _, _, _, rfl, rfl, SqT.of ha, rfl, rfl, _, rfl, ?_⟩
    by_cases c2 : e.2.1 = LINK
    · rw [c2, decide_eq_true rfl]
      exact iteT ⟨_, rfl, k _ _ (Same.refl _) (go1 (.inr c2))⟩
    rw [decide_eq_false (str_ne c2)]
    refine iteF ⟨_, rfl, a, _, _, _, rfl, rfl, SqT.of ha, rfl, rfl, _, rfl, ?_⟩
    have c12 : ¬ (e.2.1 = FILE ∨ e.2.1 = LINK) := by rintro (z | z); exact c1 z; exact c2 z
    by_cases c3 : e.2.1 = GONE
    · rw [c3, decide_eq_true rfl]
      refine iteT (iteT (k _ _ (Same.refl _) ?_))
      unfold shownM
      rw [if_neg c12, if_pos (.inl c3)]
      rfl
    rw [decide_eq_false (str_ne c3)]
    refine iteF ⟨_, rfl, a, _, _, _, rfl, rfl, SqT.of ha, rfl, Nat.zero_le _, fun p hp => ?_⟩
    have s1 : Same H (upd H p (.tup [])) := same_new hp
    have hw : WV (upd H p (.tup [])) (.ref p) [] := ⟨p, rfl, upd_same⟩
    refine ⟨_, _, WV.dp ⟨b, rfl, s1 _ _ hb⟩, hw.dp, rfl, alike_w _ _, (by rw [depth_w]; decide), _, rfl, ?_⟩
    rw [eqv_w]
    by_cases c4 : e.1 = []
    · rw [decide_eq_true c4]
      refine iteT (k _ _ s1 ?_)
      unfold shownM
      rw [if_neg c12, if_pos (.inr c4)]
      rfl
    · rw [decide_eq_false c4]
      refine iteF ⟨_, rfl, a, _, _, _, rfl, rfl, SqT.of (s1 _ _ ha), rfl, (by show 3 ≤ sizeLine; decide), fun q hq => k _ _ (s1.trans (same_new hq)) ?_⟩
      unfold shownM
      rw [if_neg c12, if_neg (by rintro (z | z); exact c3 z; exact c4 z)]
      exact ⟨q, b, rfl, upd_same, same_new hq _ _ (s1 _ _ hb)⟩
theorem sc_laid : FnScope ["pane", "tree", "things", "rows", "entry", "shown"] ["pane", "tree"] (defScope sLaid) := ⟨rfl, rfl, rfl, by decide +kernel, rfl, by decide +kernel, by decide +kernel⟩
theorem ok_laid {f fB fC fS : Addr} {fd fdB fdC fdS : FuncData} (F : Fun K "laid" "laid" sLaid f fd) (T : Txt mg) (FB : Fun K "by_way" "by_way" sByWay fB fdB) (bB : Binds K fdB ["entries"] []) (gB : mg "by_way" = some (.ref fB))
    (FC : Fun K "covered" "covered" sCovered fC fdC) (bC : Binds K fdC ["things", "way"] []) (gC : mg "covered" = some (.ref fC)) (FS : Fun K "shown_entry" "shown_entry" sShownEntry fS fdS) (bS : Binds K fdS ["entry"] []) (gS : mg "shown_entry" = some (.ref fS)) :
    FnOk P w K mg base CX0 2 f fd ["pane", "tree"] spLaid := by
  have GB : FnOk P w K mg base CX0 1 fB fdB ["entries"] spByWay := ok_by_way FB
  have GC : FnOk P w K mg base CX0 1 fC fdC ["things", "way"] spCovered := ok_covered FC T
  have GS : FnOk P w K mg base CX0 1 fS fdS ["entry"] spShown := ok_shown FS T
  refine F.ok sc_laid (fun vs H Q E h => ?_) (fun cdv A outer s H vs Q E hr h => ?_)
  · obtain ⟨v1, v2, A, t, rfl, _⟩ := h
    rfl
  · obtain ⟨v1, v2, A, t, rfl, hA, ht, oA, nt, st, lt, k⟩ := h
    have hA0 := hA
    obtain ⟨l1, rs1, rfl, hL1, hE1⟩ := hA
    obtain ⟨l2, rs2, rfl, hL2, hE2⟩ := ht
    refine ⟨_, pss_cons (ps_set (i := 2) sc_laid.nd rfl (Or.inl rfl) (pe_call GB hr rfl gB FB.kp bB .nil pass0 (pa_cons (pv 0) pa_nil)))
      (pss_cons (ps_set (i := 3) sc_laid.nd rfl (Or.inl rfl) (pe_lst pa_nil))
      (pss_cons (ps_for PassesOwn.never rfl (pi_list (pv 1)) (pg_name (i := 4) sc_laid.nd rfl (Or.inl rfl))
        (pss_one (ps_if (PW.pt (pw_and (pt_cmp (pc_dnotin (hu_of hr) (pe_ix ix_tup (pv 4) pe_int (fun _ _ => rfl)) (pv 2)) (by rfl))
            (pw_and1 (pt_not (pt_val (pe_call GC hr rfl gC FC.kp bC .nil pass0 (pa_cons (pv 2) (pa_cons (pe_ix ix_tup (pv 4) pe_int (fun _ _ => rfl)) pa_nil))))))))
          (pss_one (ps_expr (pe_bm PySem.F.plainAttrs_list PySem.F.slot_list_append PySem.F.type_list_append mt_append (pv 3) (pa_cons (pv 4) pa_nil)))) pss_nil)))
      (pss_cons (ps_for PassesOwn.never rfl (pi_list (pv 0)) (pg_name (i := 4) sc_laid.nd rfl (Or.inl rfl))
        (pss_cons (ps_set (i := 5) sc_laid.nd rfl (Or.inl rfl) (pe_call GS hr rfl gS FS.kp bS .nil pass0 (pa_cons (pv 4) pa_nil)))
          (pss_one (ps_if (pt_cmp (pc_notN (pv 5)))
            (pss_one (ps_expr (pe_bm PySem.F.plainAttrs_list PySem.F.slot_list_append PySem.F.type_list_append mt_append (pv 3) (pa_cons (pv 5) pa_nil)))) pss_nil))))
      (pss_one (ps_ret (pe_callB (call_sortG (R := EntV) (enc := eD) (fun _ _ _ z => z.dp) alike_e (fun _ => ⟨_, rfl⟩) (fun e => by rw [depth_e]; decide) hr.units) (by rfl) T.sorted (by decide +kernel) (pa_cons (pv 3) pa_nil))))))), ?_⟩
    refine ⟨_, rfl, .ref l1, A, rfl, hA0, oA.nd, (by have := oA.few; omega), fun H1 d s1 hd0 D => ?_⟩
    -- rows = []
    refine ⟨Nat.zero_le _, fun r hr1 => ?_⟩
    have hr0 : H r = none := s1.free hr1
    have s2 : Same H (upd H1 r (.lst [])) := s1.trans (same_new hr1)
    refine ⟨_, rfl, l2, rfl, ⟨_, SqL.of (s2 _ _ hL2)⟩, for_list (K := K) (a := l2) (xs := rs2) (fun i σ H' => ∃ (v : Option V) (ws : List V), σ = [some (.ref l1), some (.ref l2), some (.ref d), some (.ref r), v, none] ∧ Same H H' ∧ DictR ThV H' d A ∧ H' r = some (.lst ws) ∧ EachIs (EntV H') ws ((t.take i).filter (keptM A)))
      ⟨none, [], rfl, s2, D.same mono_th (same_new hr1), upd_same, .nil⟩ (fun i σ H' _ ⟨_, _, _, s3, _⟩ => SqL.of (s3 _ _ hL2)) ?_ ?_⟩
    · rintro i x σ H2 hi ⟨v, ws, rfl, s3, D2, hR, hW⟩
      obtain ⟨e, he, hx⟩ := each_get hE2 hi
      have hx2 := hx.tst (tst_of s3)
      obtain ⟨a, b, rfl, ha, hb⟩ := hx.tst (tst_of s3)
      have hfs := filt_succ (p := keptM A) he
      cases ql : look A e.1 with
      | some th =>
        obtain ⟨u, g, _⟩ := D2.some_ hb ql
        refine ⟨_, rfl, a, _, _, _, rfl, rfl, SqT.of ha, rfl, _, rfl, d, _, rfl, g, _, rfl, iteF (iteF ⟨_, ws, rfl, s3, D2, hR, ?_⟩)⟩
        have kf : keptM A e = false := by unfold keptM; rw [ql]; rfl
        rw [hfs, kf, if_neg Bool.false_ne_true, List.append_nil]
        exact hW
      | none =>
        refine ⟨_, rfl, a, _, _, _, rfl, rfl, SqT.of ha, rfl, _, rfl, d, _, rfl, D2.none_ hb ql, _, rfl, iteT ?_⟩
        refine ⟨_, rfl, _, rfl, a, _, _, _, rfl, rfl, SqT.of ha, rfl, d, A, .ref b, e.1, rfl, D2, ⟨b, rfl, hb⟩, ?_, fun H3 s4 => ?_⟩
        · have := st e (List.mem_of_getElem? he)
          omega
        refine ⟨_, rfl, ?_⟩
        have hR3 := s4 _ _ hR
        have D3 := D2.same mono_th s4
        have hW3 := ents_tst hW (tst_of s4)
        cases qc : covM A e.1 with
        | true =>
          refine iteF ⟨_, ws, rfl, s3.trans s4, D3, hR3, ?_⟩
          have kf : keptM A e = false := by unfold keptM; rw [ql, qc]; rfl
          rw [hfs, kf, if_neg Bool.false_ne_true, List.append_nil]
          exact hW3
        | false =>
          have kt : keptM A e = true := by unfold keptM; rw [ql, qc]; rfl
          have hlen : ws.length ≤ 100000 := by
            rw [hW3.length]
            refine Nat.le_trans (List.length_filter_le ..) ?_
            rw [List.length_take]
            omega
          refine iteT ⟨_, rfl, .inl ⟨rfl, _, SqL.of hR3⟩, _, rfl, r, ws, _, rfl, rfl, hR3, line_big (by omega), ?_⟩
          have t3 : Tst H3 (upd H3 r (.lst (ws ++ [.ref a]))) := tst_lst hR3
          obtain ⟨kvs, hkv⟩ := D3.at_
          refine ⟨_, ws ++ [.ref a], rfl, same_upd (s3.trans s4) hr0, D3.mono mono_th t3 (upd_ne (ne_of hkv hR3 (by intro q; cases q))), upd_same, ?_⟩
          rw [hfs, kt, if_pos rfl]
          exact each_app (ents_tst hW3 t3) (each_one ((hx2.tst (tst_of s4)).tst t3))
    · rintro σ H2 ⟨v, ws, rfl, s3, D2, hR, hW⟩
      rw [hE2.length, List.take_length] at hW
      -- for entry in pane
      refine ⟨_, rfl, l1, rfl, ⟨_, SqL.of (s3 _ _ hL1)⟩, for_list (K := K) (a := l1) (xs := rs1) (fun i σ H' => ∃ (v v' : Option V) (ws : List V), σ = [some (.ref l1), some (.ref l2), some (.ref d), some (.ref r), v, v'] ∧ Same H H' ∧ H' r = some (.lst ws) ∧ EachIs (EntV H') ws (t.filter (keptM A) ++ (A.take i).filterMap shownM))
        ⟨v, none, ws, rfl, s3, hR, by rw [List.take_zero, List.filterMap_nil, List.append_nil]; exact hW⟩ (fun i σ H' _ ⟨_, _, _, _, s4, _⟩ => SqL.of (s4 _ _ hL1)) ?_ ?_⟩
      · rintro i x σ H3 hi ⟨v, v', ws, rfl, s4, hR, hW⟩
        obtain ⟨e, he, hx⟩ := each_get hE1 hi
        have hx2 := hx.tst (tst_of s4)
        have hfs := fmap_succ (f := shownM) he
        refine ⟨_, rfl, x, e, rfl, hx2, fun H4 u s5 ho => ?_⟩
        have hR4 := s5 _ _ hR
        have hW4 := ents_tst hW (tst_of s5)
        refine ⟨_, rfl, _, rfl, ?_⟩
        cases qs : shownM e with
        | none =>
          rw [qs] at ho hfs
          have eu : u = .non := ho
          subst eu
          refine iteF ⟨_, _, ws, rfl, s4.trans s5, hR4, ?_⟩
          rw [hfs, List.append_nil]
          exact hW4
        | some g =>
          rw [qs] at ho hfs
          have ho' : EntV H4 u g := ho
          have ho2 := ho'
          obtain ⟨a, b, rfl, ha, hb⟩ := ho'
          have hlen : ws.length ≤ 100005 := by
            rw [hW4.length, List.length_append]
            have h1 := List.length_filter_le (keptM A) t
            have h2 := List.length_filterMap_le shownM (A.take i)
            have h3 : (A.take i).length ≤ A.length := by rw [List.length_take]; omega
            have h4 := oA.few
            omega
          refine iteT ⟨_, rfl, .inl ⟨rfl, _, SqL.of hR4⟩, _, rfl, r, ws, _, rfl, rfl, hR4, line_big (by omega), ?_⟩
          have t4 : Tst H4 (upd H4 r (.lst (ws ++ [.ref a]))) := tst_lst hR4
          refine ⟨_, _, ws ++ [.ref a], rfl, same_upd (s4.trans s5) hr0, upd_same, ?_⟩
          rw [hfs]
          dsimp only
          rw [← List.append_assoc]
          exact each_app (ents_tst hW4 t4) (each_one (ho2.tst t4))
      · rintro σ H3 ⟨v, v', ws, rfl, s4, hR, hW⟩
        rw [hE1.length, List.take_length] at hW
        refine ⟨_, rfl, r, ws, _, rfl, SqL.of hR, hW, fun ys p hy hp => k _ _ (s4.trans (same_new hp)) ?_⟩
        refine ⟨p, ys, rfl, upd_same, ?_⟩
        have e : (rowsM A t).mergeSort ele = laidM A t := sort_ents (rows_nd oA.nd nt)
        rw [← e]
        exact ents_tst hy (tst_new hp)
theorem sc_seen : FnScope ["panes", "tree", "pane"] ["panes"] (defScope sSeen) := ⟨rfl, rfl, rfl, by decide +kernel, rfl, by decide +kernel, by decide +kernel⟩
theorem ok_seen {f fL : Addr} {fd fdL : FuncData} (F : Fun K "seen" "seen" sSeen f fd) (FL : Fun K "laid" "laid" sLaid fL fdL) (bL : Binds K fdL ["pane", "tree"] []) (gL : mg "laid" = some (.ref fL)) (GL : FnOk P w K mg base CX0 2 fL fdL ["pane", "tree"] spLaid) :
    FnOk P w K mg base CX0 3 f fd ["panes"] spSeen := by
  refine F.ok sc_seen (fun vs H Q E h => ?_) (fun cdv A outer s H vs Q E hr h => ?_)
  · obtain ⟨v, ps, rfl, _⟩ := h
    rfl
  · obtain ⟨v, ps, rfl, hP, oP, lP, k⟩ := h
    obtain ⟨l, rs, rfl, hL, hE⟩ := hP
    refine ⟨_, pss_cons (ps_set (i := 1) sc_seen.nd rfl (Or.inl rfl) (pe_lst pa_nil))
      (pss_cons (ps_for PassesOwn.never rfl (pi_list (pv 0)) (pg_name (i := 2) sc_seen.nd rfl (Or.inl rfl))
        (pss_one (ps_set (i := 1) sc_seen.nd rfl (Or.inl rfl) (pe_call GL hr rfl gL FL.kp bL .nil pass0 (pa_cons (pv 2) (pa_cons (pv 1) pa_nil))))))
      (pss_one (ps_ret (pv 1)))), ?_⟩
    refine ⟨Nat.zero_le _, fun r hr0 => ?_⟩
    have s0 : Same H (upd H r (.lst [])) := same_new hr0
    refine ⟨_, rfl, l, rfl, ⟨_, SqL.of (s0 _ _ hL)⟩, for_list (K := K) (a := l) (xs := rs) (fun i σ H' => ∃ (u : V) (v : Option V), σ = [some (.ref l), some u, v] ∧ Same H H' ∧ PaneV H' u (seenM (ps.take i)))
      ⟨.ref r, none, rfl, s0, r, [], rfl, upd_same, .nil⟩ (fun i σ H' _ ⟨_, _, _, s1, _⟩ => SqL.of (s1 _ _ hL)) ?_ ?_⟩
    · rintro i x σ H1 hi ⟨u, v, rfl, s1, hu⟩
      obtain ⟨p, hp, hx⟩ := each_get hE hi
      obtain ⟨f1, f2, f3⟩ := seen_facts oP lP i
      refine ⟨_, rfl, _, rfl, x, u, p, _, rfl, hx.same s1, hu, oP p (List.mem_of_getElem? hp), f1, f2, by omega, fun H2 r s2 hr2 => ?_⟩
      rw [← seen_succ hp] at hr2
      exact ⟨r, some x, rfl, s1.trans s2, hr2⟩
    · rintro σ H1 ⟨u, v, rfl, s1, hu⟩
      rw [hE.length, List.take_length] at hu
      exact ⟨_, rfl, k _ _ s1 hu⟩
theorem meet_at {A B : List Ent} {i : Nat} {wy : Way} {x y : Way} (h : (waysM A B)[i]? = some wy) (e : hungM A B wy = some (x, y)) (hn : ∀ j, j < i → ∀ w', (waysM A B)[j]? = some w' → hungM A B w' = none) : meetM A B = some (entM A x, entM B y) := by
  unfold meetM
  refine find_at h (by rw [e]; rfl) fun j hj a' q => ?_
  rw [hn j hj a' q]
  rfl
theorem meet_no {A B : List Ent} (hn : ∀ j, j < (waysM A B).length → ∀ w', (waysM A B)[j]? = some w' → hungM A B w' = none) : meetM A B = none := by
  unfold meetM
  refine find_no fun j hj a' q => ?_
  rw [hn j hj a' q]
  rfl
theorem ways_mem {A B : List Ent} {wy : Way} (h : wy ∈ waysM A B) : (∃ t, look A wy = some t) ∨ ∃ t, look B wy = some t := by
  unfold waysM at h
  rw [(List.mergeSort_perm _ wle).mem_iff, List.mem_append] at h
  rcases h with h | h
  · obtain ⟨e, he, rfl⟩ := List.mem_map.mp h
    exact .inl (look_some_of_mem he)
  · obtain ⟨e, he, rfl⟩ := List.mem_map.mp h
    exact .inr (look_some_of_mem he)
theorem ways_short {A B : List Ent} (hA : PaneOk A) (hB : PaneOk B) {wy : Way} (h : wy ∈ waysM A B) : wy.length ≤ 1000 := by
  unfold waysM at h
  rw [(List.mergeSort_perm _ wle).mem_iff, List.mem_append] at h
  rcases h with h | h
  · obtain ⟨e, he, rfl⟩ := List.mem_map.mp h
    have := hA.short e he
    omega
  · obtain ⟨e, he, rfl⟩ := List.mem_map.mp h
    have := hB.short e he
    omega
theorem sc_meet : FnScope ["upper", "lower", "ones", "others", "way", "hung"] ["upper", "lower"] (defScope sMeet) := ⟨rfl, rfl, rfl, by decide +kernel, rfl, by decide +kernel, by decide +kernel⟩
theorem ok_meet {f fB fH : Addr} {fd fdB fdH : FuncData} (F : Fun K "meet" "meet" sMeet f fd) (T : Txt mg) (FB : Fun K "by_way" "by_way" sByWay fB fdB) (bB : Binds K fdB ["entries"] []) (gB : mg "by_way" = some (.ref fB))
    (FH : Fun K "hung_at" "hung_at" sHungAt fH fdH) (bH : Binds K fdH ["ones", "others", "way"] []) (gH : mg "hung_at" = some (.ref fH)) (GH : FnOk P w K mg base CX0 2 fH fdH ["ones", "others", "way"] spHungAt) :
    FnOk P w K mg base CX0 3 f fd ["upper", "lower"] spMeet := by
  have GB : FnOk P w K mg base CX0 1 fB fdB ["entries"] spByWay := ok_by_way FB
  refine F.ok sc_meet (fun vs H Q E h => ?_) (fun cdv A outer s H vs Q E hr h => ?_)
  · obtain ⟨v1, v2, A, B, rfl, _⟩ := h
    rfl
  · obtain ⟨v1, v2, A, B, rfl, hA, hB, oA, oB, k⟩ := h
    have hr1 : Room 1 _ := hr.mono (by decide)
    refine ⟨_, pss_cons (ps_set (i := 2) sc_meet.nd rfl (Or.inl rfl) (pe_call GB hr1 rfl gB FB.kp bB .nil pass0 (pa_cons (pv 0) pa_nil)))
      (pss_cons (ps_set (i := 3) sc_meet.nd rfl (Or.inl rfl) (pe_call GB hr1 rfl gB FB.kp bB .nil pass0 (pa_cons (pv 1) pa_nil)))
      (pss_cons (ps_for PassesOwn.never rfl (pi_list (pe_callB (call_sortG (R := WV) (enc := wD) (fun _ _ _ z => z.dp) alike_w (fun _ => ⟨_, rfl⟩) (fun e => by rw [depth_w]; decide) hr.units) (by rfl) T.sorted (by decide +kernel)
            (pa_cons (pe_op op_cat (pe_callTy (call_list_dT rfl) (by rfl) T.list (by decide +kernel) (pa_cons (pv 2) pa_nil)) (pe_callTy (call_list_dT rfl) (by rfl) T.list (by decide +kernel) (pa_cons (pv 3) pa_nil))) pa_nil)))
          (pg_name (i := 4) sc_meet.nd rfl (Or.inl rfl))
        (pss_cons (ps_set (i := 5) sc_meet.nd rfl (Or.inl rfl) (pe_call GH hr rfl gH FH.kp bH .nil pass0 (pa_cons (pv 2) (pa_cons (pv 3) (pa_cons (pv 4) pa_nil)))))
          (pss_one (ps_if (pt_cmp (pc_notN (pv 5)))
            (pss_one (ps_ret (pe_tup (pa_cons (pe_op op_catA (pe_tup (pa_cons (pe_ix ix_tup (pv 5) pe_int (fun _ _ => rfl)) pa_nil)) (pe_dget (hu_of hr) (pv 2) (pe_ix ix_tup (pv 5) pe_int (fun _ _ => rfl)) (fun _ _ => rfl)))
              (pa_cons (pe_op op_catA (pe_tup (pa_cons (pe_ix ix_tup (pv 5) pe_int (fun _ _ => rfl)) pa_nil)) (pe_dget (hu_of hr) (pv 3) (pe_ix ix_tup (pv 5) pe_int (fun _ _ => rfl)) (fun _ _ => rfl))) pa_nil))))) pss_nil))))
      (pss_one (ps_ret pe_non)))), ?_⟩
    refine ⟨_, rfl, v1, A, rfl, hA, oA.nd, (by have := oA.few; omega), fun H1 d1 s1 _ D1 => ?_⟩
    refine ⟨_, rfl, v2, B, rfl, hB.same s1, oB.nd, (by have := oB.few; omega), fun H2 d2 s2 _ D2 => ?_⟩
    have D1' := D1.same mono_th s2
    obtain ⟨kv1, e1, q1⟩ := D1'.keys
    refine ⟨_, rfl, d1, kv1, rfl, Rd.of e1, fun p1 bs1 hp1 hk1 => ?_⟩
    have w1 := q1 bs1 hk1
    have s3 : Same H2 (upd H2 p1 (.lst (bs1.map V.ref))) := same_new hp1
    obtain ⟨kv2, e2, q2⟩ := (D2.same mono_th s3).keys
    refine ⟨_, rfl, d2, kv2, rfl, Rd.of e2, fun p2 bs2 hp2 hk2 => ?_⟩
    have w2 := q2 bs2 hk2
    have s4 : Same (upd H2 p1 (.lst (bs1.map V.ref))) (upd (upd H2 p1 (.lst (bs1.map V.ref))) p2 (.lst (bs2.map V.ref))) := same_new hp2
    have hl1 : (bs1.map V.ref).length ≤ 5 := by rw [w1.length, List.length_map]; exact oA.few
    have hl2 : (bs2.map V.ref).length ≤ 5 := by rw [w2.length, List.length_map]; exact oB.few
    refine ⟨p1, p2, _, _, rfl, rfl, s4 _ _ upd_same, upd_same, Nat.le_of_lt (line_big (by omega)), fun p3 hp3 => ?_⟩
    have s5 := same_new (o := .lst (bs1.map V.ref ++ bs2.map V.ref)) hp3
    have s35 := s3.trans (s4.trans s5)
    have wAll := each_app (w1.mono fun _ _ z => z.tst (tst_of s35)) (w2.mono fun _ _ z => z.tst (tst_of (s4.trans s5)))
    refine ⟨p3, _, _, rfl, SqL.of upd_same, wAll, fun ys p4 hy hp4 => ?_⟩
    have s6 := same_new (o := .lst ys) hp4
    have s06 := s1.trans (s2.trans (s35.trans s6))
    have D1b := D1'.same mono_th (s35.trans s6)
    have D2b := D2.same mono_th (s35.trans s6)
    have hy' : EachIs (WV (upd (upd (upd (upd H2 p1 (.lst (bs1.map V.ref))) p2 (.lst (bs2.map V.ref))) p3 (.lst (bs1.map V.ref ++ bs2.map V.ref))) p4 (.lst ys))) ys (waysM A B) := EachIs.mono (fun _ _ z => z.tst (tst_of s6)) hy
    have hys : (upd (upd (upd (upd H2 p1 (.lst (bs1.map V.ref))) p2 (.lst (bs2.map V.ref))) p3 (.lst (bs1.map V.ref ++ bs2.map V.ref))) p4 (.lst ys)) p4 = some (.lst ys) := upd_same
    generalize upd (upd (upd (upd H2 p1 (.lst (bs1.map V.ref))) p2 (.lst (bs2.map V.ref))) p3 (.lst (bs1.map V.ref ++ bs2.map V.ref))) p4 (.lst ys) = H6 at *
    refine ⟨p4, rfl, ⟨_, SqL.of hys⟩, for_list (K := K) (a := p4) (xs := ys) (fun i σ H' => ∃ (v4 v5 : Option V), σ = [some v1, some v2, some (.ref d1), some (.ref d2), v4, v5] ∧ Same H6 H' ∧ ∀ j, j < i → ∀ w', (waysM A B)[j]? = some w' → hungM A B w' = none)
      ⟨none, none, rfl, Same.refl _, fun j h => absurd h (Nat.not_lt_zero _)⟩ (fun i σ H' _ ⟨_, _, _, s7, _⟩ => SqL.of (s7 _ _ hys)) ?_ ?_⟩
    · rintro i x σ H7 hi ⟨v4, v5, rfl, s7, hn⟩
      obtain ⟨wy, hwy, hx⟩ := each_get hy' hi
      have hmem := List.mem_of_getElem? hwy
      refine ⟨_, rfl, _, rfl, _, rfl, d1, d2, A, B, x, wy, rfl, D1b.same mono_th s7, D2b.same mono_th s7, hx.tst (tst_of s7), ways_short oA oB hmem, ways_mem hmem, fun H8 u s8 ho => ?_⟩
      refine ⟨_, rfl, _, rfl, ?_⟩
      cases qh : hungM A B wy with
      | none =>
        rw [qh] at ho
        have eu : u = .non := ho
        subst eu
        refine iteF ⟨_, _, rfl, s7.trans s8, fun j hj w' q => ?_⟩
        by_cases hji : j = i
        · subst hji
          rw [hwy] at q
          rw [← Option.some.inj q]
          exact qh
        · exact hn j (by omega) w' q
      | some xy =>
        obtain ⟨wx, wz⟩ := xy
        rw [qh] at ho
        obtain ⟨a, va, vb, rfl, ha, ⟨pa, rfl, hpa⟩, ⟨pb, rfl, hpb⟩⟩ := ho
        obtain ⟨⟨ta, la⟩, ⟨tb, lb⟩⟩ := hungM_some qh
        have D1c := D1b.same mono_th (s7.trans s8)
        have D2c := D2b.same mono_th (s7.trans s8)
        refine iteT ⟨_, rfl, a, _, _, _, rfl, rfl, SqT.of ha, rfl, (by show 1 ≤ sizeLine; decide), fun p5 hp5 => ?_⟩
        have s9 := same_new (o := .tup [V.ref pa]) hp5
        obtain ⟨u1, g1, t1, rfl, ht1⟩ := (D1c.same mono_th s9).some_ (s9 _ _ hpa) la
        refine ⟨_, rfl, _, rfl, a, _, _, _, rfl, rfl, SqT.of (s9 _ _ ha), rfl, d1, _, rfl, g1, ?_⟩
        refine ⟨p5, t1, _, _, rfl, rfl, SqT.of upd_same, SqT.of ht1, (by show 3 ≤ sizeLine; decide), fun z => (by cases z), fun _ z => (by cases z), fun _ _ p6 hp6 => ?_⟩
        have s10 := same_new (o := .tup ([V.ref pa] ++ [V.str ta.1, V.str ta.2])) hp6
        have s910 := s9.trans s10
        refine ⟨_, rfl, a, _, _, _, rfl, rfl, SqT.of (s910 _ _ ha), rfl, (by show 1 ≤ sizeLine; decide), fun p7 hp7 => ?_⟩
        have s11 := same_new (o := .tup [V.ref pb]) hp7
        have s911 := s910.trans s11
        obtain ⟨u2, g2, t2, rfl, ht2⟩ := (D2c.same mono_th s911).some_ (s911 _ _ hpb) lb
        refine ⟨_, rfl, _, rfl, a, _, _, _, rfl, rfl, SqT.of (s911 _ _ ha), rfl, d2, _, rfl, g2, ?_⟩
        refine ⟨p7, t2, _, _, rfl, rfl, SqT.of upd_same, SqT.of ht2, (by show 3 ≤ sizeLine; decide), fun z => (by cases z), fun _ z => (by cases z), fun _ _ p8 hp8 => ?_⟩
        have s12 := same_new (o := .tup ([V.ref pb] ++ [V.str tb.1, V.str tb.2])) hp8
        refine ⟨(by show 2 ≤ sizeLine; decide), fun p9 hp9 => ?_⟩
        have s13 := same_new (o := .tup [V.ref p6, V.ref p8]) hp9
        refine k _ _ (s06.trans (s7.trans (s8.trans (s911.trans (s12.trans s13))))) ?_
        rw [meet_at hwy qh hn]
        have ea : entM A wx = (wx, ta) := by unfold entM; rw [la]; rfl
        have eb : entM B wz = (wz, tb) := by unfold entM; rw [lb]; rfl
        rw [ea, eb]
        refine ⟨p9, _, _, rfl, upd_same, ⟨p6, pa, rfl, ?_, ?_⟩, ⟨p8, pb, rfl, ?_, ?_⟩⟩
        · exact s13 _ _ (s12 _ _ (s11 _ _ upd_same))
        · exact s13 _ _ (s12 _ _ (s911 _ _ hpa))
        · exact s13 _ _ upd_same
        · exact s13 _ _ (s12 _ _ (s911 _ _ hpb))
    · rintro σ H7 ⟨v4, v5, rfl, s7, hn⟩
      refine k _ _ (s06.trans s7) ?_
      rw [meet_no fun j hj w' q => hn j (by rw [hy'.length]; exact hj) w' q]
      rfl
end
end GL

/-! G6: sunk, the glass. -/
namespace GL
open PySem PySem.Spec PyProof.Rows L2
open PySem.W (EachIs)
/-! ### [list(pane) for pane in panes] -/
def rListOf (K : PySem.W.Frag) : List V → Hp → VK → Prop := fun xs H Q => ∃ p ys, xs = [.ref p] ∧ (SqL K H p ys ∨ SqT K H p ys) ∧ ∀ l, H l = none → Q (.ref l) (upd H l (.lst ys))
theorem call_listOf {X : Cx} {K : PySem.W.Frag} (h : X.K = K) : CallR X (.type "list") (rListOf K) := by
  subst h
  exact call_list_of
theorem PaneV.keep {H H' : Hp} {v : V} {es : List Ent} (h : PaneV H v es) (hk : ∀ l xs, v = .ref l → H l = some (.lst xs) → H' l = some (.lst xs)) (t : Tst H H') : PaneV H' v es := by
  obtain ⟨l, vs, e, q, r⟩ := h
  exact ⟨l, vs, e, hk l vs e q, ents_tst r t⟩
theorem lc_copy {K : PySem.W.Frag} {a : Addr} {xs : List V} {ps : List (List Ent)} {σ : L2.St} {H1 : Hp} {D : Addr} {n : Nat} {Qd : Hp → Prop} (hn : n < σ.length) (hH : H1 a = some (.lst xs)) (hE : EachIs (PaneV H1) xs ps) (hD : H1 D = none) (hl : ps.length ≤ 100)
    (hd : ∀ (H' : Hp) (ws : List V), Same H1 H' → H' D = some (.lst ws) → EachIs (fun v es => PaneV H' v es ∧ v ≠ .ref D) ws ps → Qd H') :
    ∃ W : Nat → Nat → Hp → Prop, (∃ m, W 0 m (upd H1 D (.lst []))) ∧ ∀ i m H, W i m H →
      ((Itl K a).stop i H ∧ Qd H) ∨ ((Itl K a).go i H ∧ ∃ Nx : Hp → Prop, (∀ H', Nx H' → ∃ m', m' < m ∧ W (i + 1) m' H') ∧ ∀ x H', (Itl K a).yld i H x H' → gName n x (wipe σ [n]) H' fun σ2 H2 => wipe σ2 [n] = wipe σ [n] ∧ tYes σ2 H2 fun b H3 =>
        if b = true then tCB (rListOf K) (tCons (tVar n) tNil) σ2 H3 fun y H4 => ∃ acc, H4 D = some (.lst acc) ∧ acc.length < sizeLine ∧ Nx (upd H4 D (.lst (acc ++ [y]))) else Nx H3) := by
  have hl' : xs.length ≤ 100 := by rw [hE.length]; exact hl
  refine lc_list (K := K) (a := a) (xs := xs) (fun i H' => ∃ ws : List V, Same H1 H' ∧ H' D = some (.lst ws) ∧ EachIs (fun v es => PaneV H' v es ∧ v ≠ .ref D) ws (ps.take i))
    ⟨[], same_new hD, upd_same, .nil⟩ (fun i H' _ ⟨_, s, _⟩ => SqL.of (s _ _ hH)) ?_ ?_
  · rintro i x H2 hi ⟨ws, s, hW, hP⟩
    obtain ⟨es, he, hx⟩ := each_get hE hi
    obtain ⟨l, vs, rfl, hL, hV⟩ := hx.same s
    show wipe ((wipe σ [n]).set n (some (V.ref l))) [n] = wipe σ [n] ∧ _
    refine ⟨by show ((σ.set n none).set n (some (V.ref l))).set n none = σ.set n none; rw [List.set_set, List.set_set], ?_⟩
    refine iteT (B := ∃ ws : List V, Same H1 H2 ∧ H2 D = some (.lst ws) ∧ EachIs (fun v es => PaneV H2 v es ∧ v ≠ .ref D) ws (ps.take (i + 1))) ?_
    refine ⟨.ref l, ?_, l, vs, rfl, .inl (SqL.of hL), fun q hq => ?_⟩
    · show ((σ.set n none).set n (some (V.ref l)))[n]? = some (some (V.ref l))
      rw [List.getElem?_set_self (by rw [List.length_set]; exact hn)]
    have s2 : Same H2 (upd H2 q (.lst vs)) := same_new hq
    have nqD : q ≠ D := fun z => by rw [z, hW] at hq; cases hq
    have hil : i < xs.length := (List.getElem?_eq_some_iff.mp hi).1
    have hwl : ws.length ≤ 100 := by rw [hP.length, List.length_take]; omega
    refine ⟨ws, s2 _ _ hW, line_big (by omega), ws ++ [.ref q], same_upd (s.trans s2) hD, upd_same, ?_⟩
    have t : Tst (upd H2 q (.lst vs)) (upd (upd H2 q (.lst vs)) D (.lst (ws ++ [.ref q]))) := tst_lst (s2 _ _ hW)
    rw [List.take_succ, he]
    refine each_app (hP.mono fun v es ⟨z1, z2⟩ => ⟨(z1.same s2).keep (fun l xs e hl => ?_) t, z2⟩) (each_one ⟨⟨q, vs, rfl, ?_, ents_tst hV (((tst_of s2)).trans t)⟩, fun z => nqD (by injection z)⟩)
    · rw [upd_ne nqD, upd_same]
    · rename_i z2
      rw [upd_ne (fun w => z2 (by rw [e, w]))]; exact hl
  · rintro H2 ⟨ws, s, hW, hP⟩
    rw [hE.length, List.take_length] at hP
    exact hd H2 ws s hW hP
/-! ### promises -/
def PsOk (ps : List (List Ent)) : Prop := (∀ p ∈ ps, PaneOk p) ∧ ps.length ≤ 100
def spSunk (CN : Addr) : Sp := fun vs H Q E => ∃ (v : V) (ps : List (List Ent)) (k : Int), vs = [v, .int k] ∧ PanesV H v ps ∧ PsOk ps ∧ ((k < 0 ∨ (ps.length : Int) ≤ k) → E (.ref CN) none H) ∧
  (∀ n : Nat, k = (n : Int) → n < ps.length → ∀ (H' : Hp) (a : Addr) (vr vp : V), Same H H' → H' a = some (.tup [vr, .int ((sinkM n ps).2.1 : Nat), vp]) → PanesV H' vr (sinkM n ps).1 → PairV H' vp (sinkM n ps).2.2 → Q (.ref a) H')
def gF (u : V) : List (Str × V) := [("stack", u)]
def GlassV (C : Addr) (H : Hp) (g : Addr) (ps : List (List Ent)) : Prop := ∃ dx u, H g = some (.ins C dx (gF u)) ∧ PanesV H u ps
theorem gF_look (u : V) : (gF u).lookup ("stack" : Str) = some u := by simp [gF, List.lookup]
theorem gF_no (u : V) {m : Str} (h : m ≠ "stack") : (gF u).lookup m = none := by
  have : (m == ("stack" : Str)) = false := beq_eq_false_iff_ne.mpr h
  simp [gF, List.lookup, this]
theorem gF_put (u x : V) : putF "stack" x (gF u) = gF x := by
  show (if ("stack" : Str) = "stack" then [(("stack" : Str), x)] else _) = [(("stack" : Str), x)]
  rw [if_pos rfl]
theorem ins_no {H : Hp} {g C dx : Addr} {fs : List (Str × V)} (h : H g = some (.ins C dx fs)) : ∀ xs, H g ≠ some (.lst xs) ∧ H g ≠ some (.tup xs) := fun xs => ⟨fun q => (by rw [h] at q; cases q), fun q => (by rw [h] at q; cases q)⟩
structure GTxt (K : PySem.W.Frag) (C : Addr) : Prop where
  cl : Cls K C
  nS : NoAttr K C "stack"
def spGInit (C : Addr) : Sp := fun vs H Q _ => ∃ (g dx : Addr) (v : V) (ps : List (List Ent)), vs = [.ref g, v] ∧ H g = some (.ins C dx []) ∧ PanesV H v ps ∧ ps.length ≤ 100 ∧ ∀ H' : Hp, (∀ b o, H b = some o → b ≠ g → H' b = some o) → GlassV C H' g ps → Q .non H'
def spGSeen (C : Addr) : Sp := fun vs H Q _ => ∃ (g : Addr) (ps : List (List Ent)), vs = [.ref g] ∧ GlassV C H g ps ∧ PsOk ps ∧ ∀ (H' : Hp) (r : V), Same H H' → PaneV H' r (seenM ps) → Q r H'
def spGPanes (C : Addr) : Sp := fun vs H Q _ => ∃ (g : Addr) (ps : List (List Ent)), vs = [.ref g] ∧ GlassV C H g ps ∧ ps.length ≤ 100 ∧ ∀ (H' : Hp) (r : V), Same H H' → PanesV H' r ps → Q r H'
def spGSink (C CN : Addr) : Sp := fun vs H Q E => ∃ (g : Addr) (ps : List (List Ent)) (k : Int), vs = [.ref g, .int k] ∧ GlassV C H g ps ∧ PsOk ps ∧ ((k < 0 ∨ (ps.length : Int) ≤ k) → E (.ref CN) none H) ∧
  (∀ n : Nat, k = (n : Int) → n < ps.length → ∀ (H' : Hp) (a : Addr) (vp : V), (∀ b o, H b = some o → b ≠ g → H' b = some o) → GlassV C H' g (sinkM n ps).1 → H' a = some (.tup [.int ((sinkM n ps).2.1 : Nat), vp]) → PairV H' vp (sinkM n ps).2.2 → Q (.ref a) H')
/-- what the top says of an own error class -/
structure ETxt (K : PySem.W.Frag) (mg : Str → Option Value) (x : Str) (C : Addr) : Prop where
  gP : mg x = some (.ref C)
  xP : PySem.W.excIn K C [.type "ValueError", .type "Exception", .type "BaseException", .type "object"] "ValueError.__new__" = true
  kP : PySem.W.keepIn K (.ref C) = true
  bP : PySem.W.subIn K (.ref C) (.type "BaseException") = some true
  tP : PySem.W.typeIn K (.ref C) = some (.type "type")
section
variable {P : Program} {w : World} {K : PySem.W.Frag} {mg : Str → Option Value} {base : Heap}
theorem sc_sunk : FnScope ["panes", "k", "rows", "pair", "kept", "pane"] ["panes", "k"] (defScope sSunk) := ⟨rfl, rfl, rfl, by decide +kernel, rfl, by decide +kernel, by decide +kernel⟩
theorem ok_sunk {f fM CN : Addr} {fd fdM : FuncData} (F : Fun K "sunk" "sunk" sSunk f fd) (T : Txt mg) (TN : ETxt K mg "NoPane" CN) (FM : Fun K "meet" "meet" sMeet fM fdM) (bM : Binds K fdM ["upper", "lower"] []) (gM : mg "meet" = some (.ref fM))
    (GM : FnOk P w K mg base CX0 3 fM fdM ["upper", "lower"] spMeet) : FnOk P w K mg base (L2.CX P w) 4 f fd ["panes", "k"] (spSunk CN) := by
  refine F.okX sc_sunk (fun vs H Q E h => ?_) (fun cdv A outer s H vs Q E hr h => ?_)
  · obtain ⟨v, ps, k, rfl, _⟩ := h
    rfl
  · obtain ⟨v, ps, k, rfl, hP, oP, hE, hS⟩ := h
    obtain ⟨l, rs, rfl, hL, hR⟩ := hP
    refine ⟨_, pss_cons (ps_if (PW.pt (pw_or (pt_cmpR op_lt (pv 1) pe_int (nomark _)) (pw_or1 (pt_cmpR op_ge (pv 1) (pe_callB call_len_seq (by rfl) T.len PySem.boot_len (pa_cons (pv 0) pa_nil)) (nomark _)))))
        (pss_one (ps_raise rfl (takes_of rfl rfl rfl rfl) (pmk_own PySem.F.excBase_ValueError TN.xP TN.gP TN.kP (raises_own TN.bP TN.tP) (by exact rfl)))) pss_nil)
      (PSs.nox (pss_cons (ps_setLc (i := 2) (own := [("pane", 5)]) (g := gName 5) (tt := tYes) rfl sc_sunk.nd rfl rfl (sw_true rfl rfl rfl (by decide +kernel)) (pi_list (pv 0)) (blkOk_by (own := [("pane", 5)]) (N := ["panes", "k", "rows", "pair", "kept", "pane"]) (sc := defScope sSunk) (by decide +kernel))
          (fun _ _ _ _ _ => pg_name (i := 5) sc_sunk.nd rfl (Or.inl rfl)) (fun _ _ _ _ _ => pts_nil) (fun _ _ _ _ _ => pe_callTy (call_listOf (K := K) rfl) (by rfl) T.list (by decide +kernel) (pa_cons (pv 5) pa_nil)))
      (pss_cons (ps_while PassesOwn.never (pt_cmpR op_gt (pv 1) pe_int (nomark _))
        (pss_cons (ps_set (i := 3) sc_sunk.nd rfl (Or.inl rfl) (pe_call GM hr rfl gM FM.kp bM .nil pass0 (pa_cons (pe_ix ix_list (pv 2) (pv 1) (fun _ _ => rfl)) (pa_cons (pe_ix ix_list (pv 2) (pe_op op_sub (pv 1) pe_int) (fun _ _ => rfl)) pa_nil))))
        (pss_cons (ps_if (pt_cmp (pc_notN (pv 3))) (pss_one (ps_ret (pe_tup (pa_cons (pv 2) (pa_cons (pv 1) (pa_cons (pv 3) pa_nil)))))) pss_nil)
        (pss_cons (ps_set (i := 4) sc_sunk.nd rfl (Or.inl rfl) (pe_ix ix_list (pv 2) (pv 1) (fun _ _ => rfl)))
        (pss_cons (ps_asg (pe_ix ix_list (pv 2) (pe_op op_sub (pv 1) pe_int) (fun _ _ => rfl)) (pg_sub (pv 2) (pv 1) set_list (fun _ => rfl)))
        (pss_cons (ps_asg (pv 4) (pg_sub (pv 2) (pe_op op_sub (pv 1) pe_int) set_list (fun _ => rfl)))
        (pss_one (ps_aug (i := 1) sc_sunk.nd rfl (Or.inl rfl) pe_int ip_sub))))))))
      (pss_one (ps_ret (pe_tup (pa_cons (pv 2) (pa_cons pe_int (pa_cons pe_non pa_nil))))))))), ?_⟩
    refine ⟨_, rfl, _, _, rfl, rfl, _, rfl, ?_⟩
    have hlen : (rs.length : Int) = (ps.length : Int) := by rw [hR.length]
    by_cases c1 : k < 0
    · rw [decide_eq_true c1]
      exact iteT (iteT (hE (.inl c1)))
    rw [decide_eq_false c1]
    refine iteF ⟨_, rfl, _, rfl, l, _, rfl, .inl (SqL.of hL), _, _, rfl, rfl, _, rfl, ?_⟩
    by_cases c2 : (rs.length : Int) ≤ k
    · rw [decide_eq_true c2]
      exact iteT (hE (.inr (by rw [← hlen]; exact c2)))
    rw [decide_eq_false c2]
    refine iteF ?_
    obtain ⟨n, rfl⟩ : ∃ n : Nat, k = (n : Int) := ⟨k.toNat, by omega⟩
    have hn : n < ps.length := by omega
    have k' := hS n rfl hn
    -- rows = [list(pane) for pane in panes]
    refine ⟨_, rfl, l, rfl, ⟨_, SqL.of hL⟩, fun r hr0 => lc_copy (n := 5) (by show (5 : Nat) < 6; decide) hL hR hr0 oP.2 fun H1 ws s1 hW hP1 => ?_⟩
    -- while k > 0
    refine ⟨fun m σ H' => ∃ (v3 v4 : Option V) (ws : List V) (qs : List (List Ent)), σ = [some (.ref l), some (.int (m : Nat)), some (.ref r), v3, v4, none] ∧ Same H H' ∧ H' r = some (.lst ws) ∧ EachIs (fun v es => PaneV H' v es ∧ v ≠ .ref r) ws qs ∧ m < qs.length ∧ (∀ p ∈ qs, PaneOk p) ∧ sinkM m qs = sinkM n ps,
      ⟨n, none, none, ws, ps, rfl, s1, hW, hP1, hn, oP.1, rfl⟩, ?_⟩
    rintro m σ H2 ⟨v3, v4, ws, qs, rfl, s2, hW, hQ, hm, oQ, hs⟩
    refine ⟨_, rfl, _, _, rfl, rfl, _, rfl, ?_⟩
    cases m with
    | zero =>
      rw [decide_eq_false (show ¬ ((0 : Int) < ((0 : Nat) : Int)) by omega)]
      refine iteF ?_
      refine ⟨_, rfl, (by show 3 ≤ sizeLine; decide), fun p hp => ?_⟩
      have e0 : sinkM 0 qs = (qs, 0, none) := rfl
      rw [e0] at hs
      have s3 := same_new (o := .tup [.ref r, .int 0, .non]) hp
      refine k' _ p (.ref r) .non (s2.trans s3) (by rw [← hs]; exact upd_same) ?_ (by rw [← hs]; rfl)
      rw [← hs]
      exact ⟨r, ws, rfl, s3 _ _ hW, hQ.mono fun v es z => z.1.same s3⟩
    | succ m =>
      rw [decide_eq_true (show (0 : Int) < ((m + 1 : Nat) : Int) by omega)]
      refine iteT ⟨fun σ' H' => ∃ (v3 v4 : Option V) (ws : List V) (qs : List (List Ent)), σ' = [some (.ref l), some (.int (m : Nat)), some (.ref r), v3, v4, none] ∧ Same H H' ∧ H' r = some (.lst ws) ∧ EachIs (fun v es => PaneV H' v es ∧ v ≠ .ref r) ws qs ∧ m < qs.length ∧ (∀ p ∈ qs, PaneOk p) ∧ sinkM m qs = sinkM n ps,
        fun σ' H' z => ⟨m, Nat.lt_succ_self m, z⟩, ?_⟩
      have hm0 : m < qs.length := by omega
      have q1 : qs[m + 1]? = some (qs.getD (m + 1) []) := by rw [List.getD_eq_getElem?_getD, List.getElem?_eq_getElem hm]; rfl
      have q0 : qs[m]? = some (qs.getD m []) := by rw [List.getD_eq_getElem?_getD, List.getElem?_eq_getElem hm0]; rfl
      obtain ⟨x1, hx1, hp1, n1⟩ := each_get2 hQ q1
      obtain ⟨x0, hx0, hp0, n0⟩ := each_get2 hQ q0
      have ei : ((m + 1 : Nat) : Int) - 1 = (m : Int) := by omega
      have o1 : PaneOk (qs.getD (m + 1) []) := oQ _ (List.mem_of_getElem? q1)
      have o0 : PaneOk (qs.getD m []) := oQ _ (List.mem_of_getElem? q0)
      -- pair = meet(rows[k], rows[k - 1])
      refine ⟨_, rfl, _, rfl, r, _, _, x1, rfl, rfl, SqL.of hW, at_of rfl hx1, _, rfl, _, rfl, _, _, rfl, rfl, r, _, _, x0, rfl, rfl, SqL.of hW, at_of ei hx0, ?_⟩
      refine ⟨x1, x0, _, _, rfl, hp1, hp0, o1, o0, fun H3 u s3 hu => ?_⟩
      refine ⟨_, rfl, _, rfl, ?_⟩
      have hW3 := s3 _ _ hW
      have hQ3 : EachIs (fun v es => PaneV H3 v es ∧ v ≠ .ref r) ws qs := hQ.mono fun v es z => ⟨z.1.same s3, z.2⟩
      cases qm : meetM (qs.getD (m + 1) []) (qs.getD m []) with
      | some pr =>
        rw [qm] at hu
        have hu0 := hu
        obtain ⟨a, va, vb, rfl, _⟩ := hu
        have e1 : sinkM (m + 1) qs = (qs, m + 1, some pr) := by rw [sinkM, qm]
        rw [e1] at hs
        refine iteT ⟨_, rfl, _, rfl, _, rfl, (by show 3 ≤ sizeLine; decide), fun p hp => ?_⟩
        have s4 := same_new (o := .tup [.ref r, .int ((m + 1 : Nat) : Int), .ref a]) hp
        refine k' _ p (.ref r) (.ref a) (s2.trans (s3.trans s4)) (by rw [← hs]; exact upd_same) ?_ (by rw [← hs]; exact hu0.tst (tst_of s4))
        rw [← hs]
        exact ⟨r, ws, rfl, s4 _ _ hW3, hQ3.mono fun v es z => z.1.same s4⟩
      | none =>
        rw [qm] at hu
        have eu : u = .non := hu
        subst eu
        have e1 : sinkM (m + 1) qs = sinkM m ((qs.set (m + 1) (qs.getD m [])).set m (qs.getD (m + 1) [])) := by rw [sinkM, qm]
        have hwl : ws.length = qs.length := hQ.length
        -- kept = rows[k]; rows[k] = rows[k - 1]; rows[k - 1] = kept; k -= 1
        refine iteF ⟨_, rfl, _, rfl, r, _, _, x1, rfl, rfl, SqL.of hW3, at_of rfl hx1, ?_⟩
        refine ⟨_, rfl, _, rfl, _, _, rfl, rfl, r, _, _, x0, rfl, rfl, SqL.of hW3, at_of ei hx0, ?_⟩
        have i1 : ixN ws.length ((m + 1 : Nat) : Int) = some (m + 1) := by
          unfold ixN
          rw [if_pos (by omega), if_pos (by omega)]
          rfl
        refine ⟨_, rfl, _, rfl, r, ws, _, m + 1, rfl, rfl, hW3, i1, ?_⟩
        have i0 : ixN (ws.set (m + 1) x0).length (((m + 1 : Nat) : Int) - 1) = some m := by
          rw [ei, List.length_set]
          unfold ixN
          rw [if_pos (by omega), if_pos (by omega)]
          rfl
        refine ⟨_, rfl, _, rfl, _, rfl, _, _, rfl, rfl, r, ws.set (m + 1) x0, _, m, rfl, rfl, upd_same, i0, ?_⟩
        rw [upd_upd]
        refine ⟨_, rfl, _, _, rfl, rfl, ?_⟩
        have t3 : Tst H3 (upd H3 r (.lst ((ws.set (m + 1) x0).set m x1))) := tst_lst hW3
        have kp : ∀ {v : V} {es : List Ent}, PaneV H3 v es ∧ v ≠ .ref r → PaneV (upd H3 r (.lst ((ws.set (m + 1) x0).set m x1))) v es ∧ v ≠ .ref r := fun {v es} z => ⟨z.1.keep (fun l xs e hl => by rw [upd_ne (fun w => z.2 (by rw [e, w]))]; exact hl) t3, z.2⟩
        refine ⟨some .non, some x1, (ws.set (m + 1) x0).set m x1, (qs.set (m + 1) (qs.getD m [])).set m (qs.getD (m + 1) []), ?_, same_upd (s2.trans s3) hr0, upd_same, ?_, ?_, ?_, ?_⟩
        · show [_, some (V.int (((m + 1 : Nat) : Int) - 1)), _, _, _, _] = _
          rw [ei]
        · have hx1' : PaneV H3 x1 (qs.getD (m + 1) []) ∧ x1 ≠ .ref r := ⟨hp1.same s3, n1⟩
          have hx0' : PaneV H3 x0 (qs.getD m []) ∧ x0 ≠ .ref r := ⟨hp0.same s3, n0⟩
          have z0 : EachIs (fun v es => PaneV (upd H3 r (.lst ((ws.set (m + 1) x0).set m x1))) v es ∧ v ≠ .ref r) ws qs := hQ3.mono fun v es z => kp z
          exact each_set (R := fun v es => PaneV (upd H3 r (.lst ((ws.set (m + 1) x0).set m x1))) v es ∧ v ≠ .ref r) (kp hx1') m (each_set (R := fun v es => PaneV (upd H3 r (.lst ((ws.set (m + 1) x0).set m x1))) v es ∧ v ≠ .ref r) (kp hx0') (m + 1) z0)
        · rw [List.length_set, List.length_set]
          exact hm0
        · intro p hp
          rcases List.mem_or_eq_of_mem_set hp with hp | hp
          · rcases List.mem_or_eq_of_mem_set hp with hp | hp
            · exact oQ p hp
            · rw [hp]; exact o0
          · rw [hp]; exact o1
        · rw [← e1]
          exact hs
theorem sc_ginit : FnScope ["self", "panes", "pane"] ["self", "panes"] (defScope sGInit) := ⟨rfl, rfl, rfl, by decide +kernel, rfl, by decide +kernel, by decide +kernel⟩
theorem ok_ginit {f C : Addr} {fd : FuncData} (F : Fun K "__init__" "Glass.__init__" sGInit f fd) (T : Txt mg) (TG : GTxt K C) : FnOk P w K mg base CX0 1 f fd ["self", "panes"] (spGInit C) := by
  refine F.ok sc_ginit (fun vs H Q E h => ?_) (fun cdv A outer s H vs Q E hr h => ?_)
  · obtain ⟨g, dx, v, ps, rfl, _⟩ := h
    rfl
  · obtain ⟨g, dx, v, ps, rfl, hg, hP, hl, k⟩ := h
    obtain ⟨l, rs, rfl, hL, hR⟩ := hP
    refine ⟨_, pss_one (ps_fld (pv 0) (pe_lc (own := [("pane", 2)]) (g := gName 2) (tt := tYes) (by rfl) sc_ginit.nd (pi_list (pv 1)) (blkOk_by (own := [("pane", 2)]) (N := ["self", "panes", "pane"]) (sc := defScope sGInit) (by decide +kernel))
          (fun _ _ _ _ _ => pg_name (i := 2) sc_ginit.nd rfl (Or.inl rfl)) (fun _ _ _ _ _ => pts_nil) (fun _ _ _ _ _ => pe_callTy (call_listOf (K := K) rfl) (by rfl) T.list (by decide +kernel) (pa_cons (pv 2) pa_nil))) rfl), ?_⟩
    refine ⟨_, rfl, l, rfl, ⟨_, SqL.of hL⟩, fun r hr0 => lc_copy (n := 2) (by show (2 : Nat) < 3; decide) hL hR hr0 hl fun H1 ws s1 hW hP1 => ?_⟩
    have hg1 := s1 _ _ hg
    refine ⟨_, rfl, g, C, dx, [], rfl, hg1, TG.cl, TG.nS, (by show 0 < 1000; decide), ?_⟩
    have ng := ins_no hg1
    refine k _ (fun b o e hb => by rw [upd_ne hb]; exact s1 _ _ e) ⟨dx, .ref r, upd_same, ?_⟩
    have hPs : PanesV H1 (.ref r) ps := ⟨r, ws, rfl, hW, hP1.mono fun _ _ z => z.1⟩
    exact hPs.but ng fun b o e hb => by rw [upd_ne hb]; exact e
theorem sc_gseen : FnScope ["self"] ["self"] (defScope sGSeen) := ⟨rfl, rfl, rfl, by decide +kernel, rfl, by decide +kernel, by decide +kernel⟩
theorem ok_gseen {f fS C : Addr} {fd fdS : FuncData} (F : Fun K "seen" "Glass.seen" sGSeen f fd) (TG : GTxt K C) (FS : Fun K "seen" "seen" sSeen fS fdS) (bS : Binds K fdS ["panes"] []) (gS : mg "seen_laying" = some (.ref fS)) (GS : FnOk P w K mg base CX0 3 fS fdS ["panes"] spSeen) :
    FnOk P w K mg base CX0 4 f fd ["self"] (spGSeen C) := by
  refine F.ok sc_gseen (fun vs H Q E h => ?_) (fun cdv A outer s H vs Q E hr h => ?_)
  · obtain ⟨g, ps, rfl, _⟩ := h
    rfl
  · obtain ⟨g, ps, rfl, ⟨dx, u, hg, hP⟩, oP, k⟩ := h
    refine ⟨_, pss_one (ps_ret (pe_call GS hr rfl gS FS.kp bS .nil pass0 (pa_cons (pe_fld (pv 0) rfl) pa_nil))), ?_⟩
    exact ⟨_, rfl, g, C, dx, _, _, rfl, hg, TG.cl, TG.nS, gF_look u, u, ps, rfl, hP, oP.1, oP.2, k⟩
theorem sc_gpanes : FnScope ["self", "pane"] ["self"] (defScope sGPanes) := ⟨rfl, rfl, rfl, by decide +kernel, rfl, by decide +kernel, by decide +kernel⟩
theorem ok_gpanes {f C : Addr} {fd : FuncData} (F : Fun K "panes" "Glass.panes" sGPanes f fd) (T : Txt mg) (TG : GTxt K C) : FnOk P w K mg base CX0 1 f fd ["self"] (spGPanes C) := by
  refine F.ok sc_gpanes (fun vs H Q E h => ?_) (fun cdv A outer s H vs Q E hr h => ?_)
  · obtain ⟨g, ps, rfl, _⟩ := h
    rfl
  · obtain ⟨g, ps, rfl, ⟨dx, u, hg, hP⟩, hl, k⟩ := h
    obtain ⟨l, rs, rfl, hL, hR⟩ := hP
    refine ⟨_, pss_one (ps_ret (pe_lc (own := [("pane", 1)]) (g := gName 1) (tt := tYes) (by rfl) sc_gpanes.nd (pi_list (pe_fld (pv 0) rfl)) (blkOk_by (own := [("pane", 1)]) (N := ["self", "pane"]) (sc := defScope sGPanes) (by decide +kernel))
          (fun _ _ _ _ _ => pg_name (i := 1) sc_gpanes.nd rfl (Or.inl rfl)) (fun _ _ _ _ _ => pts_nil) (fun _ _ _ _ _ => pe_callTy (call_listOf (K := K) rfl) (by rfl) T.list (by decide +kernel) (pa_cons (pv 1) pa_nil)))), ?_⟩
    refine ⟨_, rfl, g, C, dx, _, _, rfl, hg, TG.cl, TG.nS, gF_look _, l, rfl, ⟨_, SqL.of hL⟩, fun r hr0 => lc_copy (n := 1) (by show (1 : Nat) < 2; decide) hL hR hr0 hl fun H1 ws s1 hW hP1 => ?_⟩
    exact k _ _ s1 ⟨r, ws, rfl, hW, hP1.mono fun _ _ z => z.1⟩
theorem sc_gsink : FnScope ["self", "k", "told"] ["self", "k"] (defScope sGSink) := ⟨rfl, rfl, rfl, by decide +kernel, rfl, by decide +kernel, by decide +kernel⟩
theorem ok_gsink {f fS C CN : Addr} {fd fdS : FuncData} (F : Fun K "sink" "Glass.sink" sGSink f fd) (TG : GTxt K C) (FS : Fun K "sunk" "sunk" sSunk fS fdS) (bS : Binds K fdS ["panes", "k"] []) (gS : mg "sunk" = some (.ref fS)) (GS : FnOk P w K mg base (L2.CX P w) 4 fS fdS ["panes", "k"] (spSunk CN)) :
    FnOk P w K mg base (L2.CX P w) 5 f fd ["self", "k"] (spGSink C CN) := by
  refine F.okX sc_gsink (fun vs H Q E h => ?_) (fun cdv A outer s H vs Q E hr h => ?_)
  · obtain ⟨g, ps, k, rfl, _⟩ := h
    rfl
  · obtain ⟨g, ps, k, rfl, ⟨dx, u, hg, hP⟩, oP, hE, hS⟩ := h
    refine ⟨_, pss_cons (ps_set (i := 2) sc_gsink.nd rfl (Or.inl rfl) (pe_call (E := E) GS hr rfl gS FS.kp bS .nil (passes_call (takes_of rfl rfl rfl rfl) fun _ _ _ _ z => z) (pa_cons (pe_fld (pv 0) rfl) (pa_cons (pv 1) pa_nil))))
      (PSs.nox (pss_cons (ps_fld (pv 0) (pe_ix ix_tup (pv 2) pe_int (fun _ _ => rfl)) rfl)
        (pss_one (ps_ret (pe_tup (pa_cons (pe_ix ix_tup (pv 2) pe_int (fun _ _ => rfl)) (pa_cons (pe_ix ix_tup (pv 2) pe_int (fun _ _ => rfl)) pa_nil))))))), ?_⟩
    refine ⟨_, rfl, g, C, dx, _, _, rfl, hg, TG.cl, TG.nS, gF_look u, _, rfl, u, ps, k, rfl, hP, oP, hE, fun n en hn H1 a vr vp s1 ha hR hp => ?_⟩
    have hg1 := s1 _ _ hg
    refine ⟨_, rfl, a, _, _, _, rfl, rfl, SqT.of ha, rfl, _, rfl, g, C, dx, _, rfl, hg1, TG.cl, TG.nS, (by show 1 < 1000; decide), ?_⟩
    rw [gF_put]
    have ng := ins_no hg1
    have kp : ∀ b o, H1 b = some o → b ≠ g → (upd H1 g (.ins C dx (gF vr))) b = some o := fun b o e hb => by rw [upd_ne hb]; exact e
    have tt : Tst H1 (upd H1 g (.ins C dx (gF vr))) := tst_ins hg1
    have ha1 := tt _ _ ha
    refine ⟨_, rfl, a, _, _, _, rfl, rfl, SqT.of ha1, rfl, _, rfl, a, _, _, _, rfl, rfl, SqT.of ha1, rfl, (by show 2 ≤ sizeLine; decide), fun p hq => ?_⟩
    have s2 := same_new (o := .tup [.int ((sinkM n ps).2.1 : Nat), vp]) hq
    refine hS n en hn _ p vp (fun b o e hb => s2 _ _ (kp _ _ (s1 _ _ e) hb)) ⟨dx, vr, s2 _ _ upd_same, (hR.but ng kp).same s2⟩ upd_same ((hp.tst tt).tst (tst_of s2))
end
end GL

/-! G7: the law's helpers that draw: cells, numbers, names, texts. -/
namespace GL
open PySem PySem.Spec PyProof.Rows L2
open PySem.W (EachIs)
theorem yes_if {σ : L2.St} {H : Hp} {A B : Hp → Prop} (h : A H) : tYes σ H (fun b H3 => if b = true then A H3 else B H3) := h
def spCellAt (K : PySem.W.Frag) : Sp := fun vs H Q _ => ∃ (a : Addr) (ns : List Int) (k : Int), vs = [.ref a, .int k] ∧ SqL K H a (ns.map V.int) ∧ ns.length ≤ 63 ∧ 0 ≤ k ∧ ∀ z : Int, Q (.int z) H
def spCells (K : PySem.W.Frag) : Sp := fun vs H Q _ => ∃ (a : Addr) (ns : List Int) (i s m : Int), vs = [.ref a, .int i, .int s, .int m] ∧ SqL K H a (ns.map V.int) ∧ ns.length ≤ 63 ∧ 0 ≤ i ∧ 0 ≤ s ∧ s ≤ 1000 ∧ 0 ≤ m ∧ m ≤ 1000 ∧
  ∀ (H' : Hp) (p : Addr) (zs : List Int), Same H H' → H' p = some (.lst (zs.map V.int)) → zs.length = m.toNat → Q (.ref p) H'
def spMixed : Sp := fun vs H Q _ => ∃ c t m : Int, vs = [.int c, .int t, .int m] ∧ 0 < m ∧ ∀ (H' : Hp) (z : Int), Same H H' → 0 ≤ z → z < m → Q (.int z) H'
def spNameBy : Sp := fun vs H Q _ => ∃ s v : Int, vs = [.int s, .int v] ∧ 0 ≤ s ∧ ∀ x : Str, x.length ≤ 12 → Q (.str x) H
def spTextBy : Sp := fun vs H Q _ => ∃ (m : Str) (c s w : Int), vs = [.str m, .int c, .int s, .int w] ∧ 0 ≤ s ∧ 0 < w ∧ ∀ (H' : Hp) (x : Str), Same H H' → Q (.str x) H'
def spUnderShut : Sp := fun vs H Q _ => ∃ (d : Addr) (es : List Ent) (v : V) (w : Way), vs = [.ref d, v] ∧ DictR ThV H d es ∧ WV H v w ∧ w.length ≤ 1000 ∧ ∀ (H' : Hp) (b : Bool), Same H H' → Q (.bl b) H'
def spNumber : Sp := fun vs H Q _ => ∃ c m : Int, vs = [.int c, .int m] ∧ 0 ≤ m ∧ ∀ (H' : Hp) (z : Int), Same H H' → Q (.int z) H'
/-- an item of eight numbers, each above nought -/
theorem eight {a0 a1 a2 a3 a4 a5 a6 a7 : Int} (h : 0 < a0 ∧ 0 < a1 ∧ 0 < a2 ∧ 0 < a3 ∧ 0 < a4 ∧ 0 < a5 ∧ 0 < a6 ∧ 0 < a7) (t : Int) : ∃ p : Int, atI [V.int a0, .int a1, .int a2, .int a3, .int a4, .int a5, .int a6, .int a7] (t % 8) = some (.int p) ∧ 0 < p := by
  obtain ⟨j, hj⟩ : ∃ j : Nat, t % 8 = (j : Int) := ⟨(t % 8).toNat, by omega⟩
  have hj8 : j < 8 := by omega
  have key : ∃ p : Int, ([V.int a0, .int a1, .int a2, .int a3, .int a4, .int a5, .int a6, .int a7] : List V)[j]? = some (.int p) ∧ 0 < p := by
    match j, hj8 with
    | 0, _ => exact ⟨a0, rfl, h.1⟩
    | 1, _ => exact ⟨a1, rfl, h.2.1⟩
    | 2, _ => exact ⟨a2, rfl, h.2.2.1⟩
    | 3, _ => exact ⟨a3, rfl, h.2.2.2.1⟩
    | 4, _ => exact ⟨a4, rfl, h.2.2.2.2.1⟩
    | 5, _ => exact ⟨a5, rfl, h.2.2.2.2.2.1⟩
    | 6, _ => exact ⟨a6, rfl, h.2.2.2.2.2.2.1⟩
    | 7, _ => exact ⟨a7, rfl, h.2.2.2.2.2.2.2⟩
    | n + 8, q => omega
  obtain ⟨p, e, hp⟩ := key
  exact ⟨p, at_of hj e, hp⟩
abbrev SIGNS : Str := "abcdefghijklmnopqrstuvwxyz0123456789"
theorem signs_len : SIGNS.cps.toList.length = 36 := by decide +kernel
theorem signs_size : SIGNS.length ≤ sizeLine := by
  have : SIGNS.length = 36 := by decide +kernel
  rw [this]
  decide
theorem sign_at (t : Int) : ∃ c, atI SIGNS.cps.toList (t % 36) = some c := by
  obtain ⟨j, hj⟩ : ∃ j : Nat, t % 36 = (j : Int) := ⟨(t % 36).toNat, by omega⟩
  have hl : j < SIGNS.cps.toList.length := by rw [signs_len]; omega
  exact ⟨SIGNS.cps.toList[j], by rw [hj]; exact atI_nat (List.getElem?_eq_getElem hl)⟩
theorem one_len (c : Nat) : (⟨#[c]⟩ : Str).length = 1 := rfl
theorem str_app_len (a b : Str) : (a ++ b).length = a.length + b.length := PySem.Str.length_append a b
theorem str_line {n : Nat} (h : n ≤ 1000) : n ≤ sizeLine := Nat.le_trans h (by decide)
section
variable {P : Program} {w : World} {K : PySem.W.Frag} {mg : Str → Option Value} {base : Heap}
theorem sc_cell_at : FnScope ["_law_script", "_law_k"] ["_law_script", "_law_k"] (defScope sCellAt) := ⟨rfl, rfl, rfl, by decide +kernel, rfl, by decide +kernel, by decide +kernel⟩
theorem ok_cell_at {f : Addr} {fd : FuncData} (F : Fun K "_law_cell_at" "_law_cell_at" sCellAt f fd) (T : Txt mg) : FnOk P w K mg base CX0 1 f fd ["_law_script", "_law_k"] (spCellAt K) := by
  refine F.ok sc_cell_at (fun vs H Q E h => ?_) (fun cdv A outer s H vs Q E hr h => ?_)
  · obtain ⟨a, ns, k, rfl, _⟩ := h
    rfl
  · obtain ⟨a, ns, k, rfl, hS, hl, h0, q⟩ := h
    refine ⟨_, pss_cons (ps_if (pt_cmpR op_lt (pv 1) (pe_callB call_len_seq (by rfl) T.len PySem.boot_len (pa_cons (pv 0) pa_nil)) (nomark _)) (pss_one (ps_ret (pe_ix ix_list (pv 0) (pv 1) (fun _ _ => rfl)))) pss_nil)
      (pss_one (ps_ret pe_int)), ?_⟩
    refine ⟨_, rfl, _, rfl, a, _, rfl, .inl hS, _, _, rfl, rfl, _, rfl, ?_⟩
    by_cases c : k < ((ns.map V.int).length : Int)
    · rw [decide_eq_true c]
      have hk : k.toNat < ns.length := by rw [List.length_map] at c; omega
      refine iteT ⟨_, rfl, _, rfl, a, _, k, .int ns[k.toNat], rfl, rfl, hS, at_of (j := k.toNat) (by omega) ?_, q _⟩
      rw [List.getElem?_map, List.getElem?_eq_getElem hk]
      rfl
    · rw [decide_eq_false c]
      exact iteF (q 0)
theorem sc_cells : FnScope ["_law_script", "_law_first", "_law_step", "_law_many", "_law_k"] ["_law_script", "_law_first", "_law_step", "_law_many"] (defScope sCells) := ⟨rfl, rfl, rfl, by decide +kernel, rfl, by decide +kernel, by decide +kernel⟩
theorem ok_cells {f fC : Addr} {fd fdC : FuncData} (F : Fun K "_law_cells" "_law_cells" sCells f fd) (T : Txt mg) (FC : Fun K "_law_cell_at" "_law_cell_at" sCellAt fC fdC) (bC : Binds K fdC ["_law_script", "_law_k"] []) (gC : mg "_law_cell_at" = some (.ref fC)) :
    FnOk P w K mg base CX0 2 f fd ["_law_script", "_law_first", "_law_step", "_law_many"] (spCells K) := by
  have GC : FnOk P w K mg base CX0 1 fC fdC ["_law_script", "_law_k"] (spCellAt K) := ok_cell_at FC T
  refine F.ok sc_cells (fun vs H Q E h => ?_) (fun cdv A outer s H vs Q E hr h => ?_)
  · obtain ⟨a, ns, i, st, m, rfl, _⟩ := h
    rfl
  · obtain ⟨a, ns, i, st, m, rfl, hS, hl, hi0, hs0, hs1, hm0, hm1, q⟩ := h
    refine ⟨_, pss_one (ps_ret (pe_lc (own := [("_law_k", 4)]) (g := gName 4) (tt := tYes) (by rfl) sc_cells.nd (pi_range1 rfl T.range (pa_cons (pv 3) pa_nil))
        (blkOk_by (own := [("_law_k", 4)]) (N := ["_law_script", "_law_first", "_law_step", "_law_many", "_law_k"]) (sc := defScope sCells) (by decide +kernel))
        (fun _ _ _ _ _ => pg_name (i := 4) sc_cells.nd rfl (Or.inl rfl)) (fun _ _ _ _ _ => pts_nil)
        (fun _ _ _ _ _ => pe_op op_add (pe_call GC hr rfl gC FC.kp bC .nil pass0 (pa_cons (pv 0) (pa_cons (pe_op op_add (pv 1) (pe_op op_mul (pv 2) (pv 4))) pa_nil))) (pv 4)))), ?_⟩
    refine ⟨_, rfl, m, rfl, by omega, by omega, fun D hD => ?_⟩
    refine lc_range (lo := 0) (n := m.toNat) (fun i H' => ∃ zs : List Int, Same H H' ∧ H' D = some (.lst (zs.map V.int)) ∧ zs.length = i) ⟨[], same_new hD, upd_same, rfl⟩ ?_ ?_
    · rintro j H1 hj ⟨zs, s1, hz, hzl⟩
      refine ⟨rfl, yes_if ?_⟩
      refine ⟨_, rfl, _, rfl, _, rfl, _, rfl, _, _, rfl, rfl, .inl ⟨by omega, by omega⟩, _, _, rfl, rfl, ?_⟩
      have hnn : 0 ≤ st * ((0 : Int) + (j : Nat)) := Int.mul_nonneg hs0 (by omega)
      refine ⟨a, ns, _, rfl, s1.seq hS, hl, by omega, fun z => ?_⟩
      refine ⟨_, rfl, _, _, rfl, rfl, zs.map V.int, hz, line_big (by rw [List.length_map]; omega), zs ++ [z + ((0 : Int) + (j : Nat))], same_upd s1 hD, ?_, by rw [List.length_append, hzl]; rfl⟩
      rw [upd_same, List.map_append]
      rfl
    · rintro H1 ⟨zs, s1, hz, hzl⟩
      exact q _ D zs s1 hz hzl
theorem sc_mixed : FnScope ["_law_cell", "_law_turn", "_law_many", "_law_by", "_law_prime"] ["_law_cell", "_law_turn", "_law_many"] (defScope sMixed) := ⟨rfl, rfl, rfl, by decide +kernel, rfl, by decide +kernel, by decide +kernel⟩
theorem ok_mixed {f : Addr} {fd : FuncData} (F : Fun K "_law_mixed" "_law_mixed" sMixed f fd) : FnOk P w K mg base CX0 1 f fd ["_law_cell", "_law_turn", "_law_many"] spMixed := by
  refine F.ok sc_mixed (fun vs H Q E h => ?_) (fun cdv A outer s H vs Q E hr h => ?_)
  · obtain ⟨c, t, m, rfl, _⟩ := h
    rfl
  · obtain ⟨c, t, m, rfl, hm, q⟩ := h
    refine ⟨_, pss_cons (ps_set (i := 3) sc_mixed.nd rfl (Or.inl rfl) (pe_tup (pa_cons pe_int (pa_cons pe_int (pa_cons pe_int (pa_cons pe_int (pa_cons pe_int (pa_cons pe_int (pa_cons pe_int (pa_cons pe_int pa_nil))))))))))
      (pss_cons (ps_set (i := 4) sc_mixed.nd rfl (Or.inl rfl) (pe_tup (pa_cons pe_int (pa_cons pe_int (pa_cons pe_int (pa_cons pe_int (pa_cons pe_int (pa_cons pe_int (pa_cons pe_int (pa_cons pe_int pa_nil))))))))))
      (pss_one (ps_ret (pe_op op_mod (pe_op op_mod (pe_op op_mul (pe_op op_add (pe_op op_mod (pv 0) (pe_op op_pow pe_int pe_int)) pe_int) (pe_ix ix_tup (pv 3) (pe_op op_mod (pv 1) pe_int) (fun _ _ => rfl))) (pe_ix ix_tup (pv 4) (pe_op op_mod (pv 1) pe_int) (fun _ _ => rfl))) (pv 2))))), ?_⟩
    refine ⟨(by show 8 ≤ sizeLine; decide), fun p1 h1 => ⟨(by show 8 ≤ sizeLine; decide), fun p2 h2 => ?_⟩⟩
    have s1 := same_new (o := .tup [V.int 48271, .int 69621, .int 16807, .int 39373, .int 21401, .int 60493, .int 87721, .int 31337]) h1
    have s2 := same_new (o := .tup [V.int 99991, .int 99989, .int 99971, .int 99961, .int 99929, .int 99923, .int 99907, .int 99901]) h2
    obtain ⟨b, eb, hb⟩ := eight (a0 := 48271) (a1 := 69621) (a2 := 16807) (a3 := 39373) (a4 := 21401) (a5 := 60493) (a6 := 87721) (a7 := 31337) (by decide) t
    obtain ⟨r, er, hr'⟩ := eight (a0 := 99991) (a1 := 99989) (a2 := 99971) (a3 := 99961) (a4 := 99929) (a5 := 99923) (a6 := 99907) (a7 := 99901) (by decide) t
    have hp : (0 : Int) < 10 ^ (18 : Int).toNat := by decide
    have hpe : (10 : Int) ^ (18 : Int).toNat = 1000000000000000000 := by decide
    refine ⟨_, rfl, _, _, rfl, rfl, ⟨by decide, by decide, by decide⟩, _, _, rfl, rfl, hp, _, _, rfl, rfl, _, rfl, _, rfl, _, _, rfl, rfl, (by show (0 : Int) < 8; decide), p1, _, _, _, rfl, rfl, SqT.of (s2 _ _ upd_same), eb, _, _, rfl, rfl, .inl ?_,
      _, rfl, _, rfl, _, _, rfl, rfl, (by show (0 : Int) < 8; decide), p2, _, _, _, rfl, rfl, SqT.of upd_same, er, _, _, rfl, rfl, hr', _, rfl, _, _, rfl, rfl, hm, q _ _ (s1.trans s2) (Int.emod_nonneg _ (by omega)) (Int.emod_lt_of_pos _ hm)⟩
    have e1 := Int.emod_nonneg c (b := (10 : Int) ^ (18 : Int).toNat) (by omega)
    have e2 := Int.emod_lt_of_pos c hp
    rw [hpe] at e1 e2
    show -(2 ^ 64) < c % (10 : Int) ^ (18 : Int).toNat + 1 ∧ c % (10 : Int) ^ (18 : Int).toNat + 1 < 2 ^ 64
    rw [hpe]
    omega
theorem sc_name_by : FnScope ["_law_stem", "_law_v", "_law_signs", "_law_size", "_law_spot", "_law_name", "_law_k", "_law_turn"] ["_law_stem", "_law_v"] (defScope sNameBy) := ⟨rfl, rfl, rfl, by decide +kernel, rfl, by decide +kernel, by decide +kernel⟩
theorem ok_name_by {f : Addr} {fd : FuncData} (F : Fun K "_law_name_by" "_law_name_by" sNameBy f fd) (T : Txt mg) : FnOk P w K mg base CX0 1 f fd ["_law_stem", "_law_v"] spNameBy := by
  refine F.ok sc_name_by (fun vs H Q E h => ?_) (fun cdv A outer s H vs Q E hr h => ?_)
  · obtain ⟨s, v, rfl, _⟩ := h
    rfl
  · obtain ⟨st, v, rfl, h0, q⟩ := h
    refine ⟨_, pss_cons (ps_set (i := 2) sc_name_by.nd rfl (Or.inl rfl) pe_str)
      (pss_cons (ps_set (i := 3) sc_name_by.nd rfl (Or.inl rfl) (pe_op op_add pe_int (pe_op op_mod (pv 0) pe_int)))
      (pss_cons (ps_set (i := 4) sc_name_by.nd rfl (Or.inl rfl) (pe_op op_mod (pe_op op_fdiv (pv 0) pe_int) (pv 3)))
      (pss_cons (ps_set (i := 5) sc_name_by.nd rfl (Or.inl rfl) pe_str)
      (pss_cons (ps_for PassesOwn.never rfl (pi_range1 rfl T.range (pa_cons (pv 3) pa_nil)) (pg_name (i := 6) sc_name_by.nd rfl (Or.inl rfl))
        (pss_cons (ps_set (i := 7) sc_name_by.nd rfl (Or.inl rfl) (pe_op op_add (pe_op op_fdiv (pv 0) pe_int) (pe_op op_mul (pv 6) (pe_op op_mod (pe_op op_fdiv (pv 0) pe_int) pe_int))))
        (pss_cons (ps_if (pt_cmpR op_eq (pv 6) (pv 4) (nomark _)) (pss_one (ps_set (i := 7) sc_name_by.nd rfl (Or.inl rfl) (pe_op op_add (pv 7) (pv 1)))) pss_nil)
        (pss_one (ps_set (i := 5) sc_name_by.nd rfl (Or.inl rfl) (pe_op op_add_str (pv 5) (pe_ix ix_str (pv 2) (pe_op op_mod (pv 7) pe_int) (fun _ _ => rfl))))))))
      (pss_cons (ps_if (PW.pt (pw_and (pt_cmpR op_eq (pe_op op_mod (pe_op op_fdiv (pv 0) pe_int) pe_int) pe_int (nomark _)) (pw_and1 (pt_cmpR op_eq (pe_op op_mod (pv 1) pe_int) pe_int (nomark _)))))
        (pss_one (ps_set (i := 5) sc_name_by.nd rfl (Or.inl rfl) (pe_slice sl_str (pv 5) po_none (po_some (pe_op op_add pe_int (pe_op op_mod (pv 1) (pv 3))))))) pss_nil)
      (pss_one (ps_ret (pv 5)))))))), ?_⟩
    -- size, spot
    have hsz : (0 : Int) < 1 + st % 12 := by omega
    have hsz2 : 1 + st % 12 ≤ 12 := by omega
    refine ⟨_, rfl, _, _, rfl, rfl, (by show (0 : Int) < 12; decide), _, _, rfl, rfl, ?_⟩
    refine ⟨_, rfl, _, _, rfl, rfl, ⟨by decide, by decide⟩, _, rfl, _, _, rfl, rfl, hsz, ?_⟩
    refine ⟨_, rfl, _, rfl, by omega, by omega, ?_⟩
    refine for_range (lo := 0) (n := (1 + st % 12).toNat) (fun i σ H' => H' = H ∧ ∃ (x : Str) (v6 v7 : Option V), σ = [some (.int st), some (.int v), some (.str SIGNS), some (.int (1 + st % 12)), some (.int (st / 12 % (1 + st % 12))), some (.str x), v6, v7] ∧ x.length = i)
      ⟨rfl, (("" : String) : Str), none, none, rfl, by decide +kernel⟩ ?_ ?_
    · rintro i σ H1 hi ⟨rfl, x, v6, v7, rfl, hx⟩
      refine ⟨_, rfl, _, _, rfl, rfl, ⟨by decide, by decide⟩, _, rfl, _, rfl, _, _, rfl, rfl, ⟨by decide, by decide⟩, _, _, rfl, rfl, (by show (0 : Int) < 36; decide), _, _, rfl, rfl, .inr ⟨by omega, by omega⟩, _, _, rfl, rfl, ?_⟩
      refine ⟨_, rfl, _, rfl, rfl, _, rfl, ?_⟩
      have hnx : ∀ c : Nat, (x ++ (⟨#[c]⟩ : Str)).length = i + 1 := fun c => by rw [str_app_len, hx, one_len]
      refine ite2 (fun _ => ?_) (fun _ => ?_)
      · refine ⟨_, rfl, _, rfl, _, _, rfl, rfl, ?_⟩
        obtain ⟨c, ec⟩ := sign_at (st / 5184 + (0 + (i : Nat)) * (st / 144 % 36) + v)
        refine ⟨_, rfl, _, rfl, _, rfl, _, _, rfl, rfl, (by show (0 : Int) < 36; decide), SIGNS, _, c, rfl, rfl, signs_size, ec, _, _, rfl, rfl, ?_, ?_⟩
        · rw [one_len]; exact str_line (by omega)
        · exact ⟨rfl, _, _, _, rfl, hnx c⟩
      · obtain ⟨c, ec⟩ := sign_at (st / 5184 + (0 + (i : Nat)) * (st / 144 % 36))
        refine ⟨_, rfl, _, rfl, _, rfl, _, _, rfl, rfl, (by show (0 : Int) < 36; decide), SIGNS, _, c, rfl, rfl, signs_size, ec, _, _, rfl, rfl, ?_, ?_⟩
        · rw [one_len]; exact str_line (by omega)
        · exact ⟨rfl, _, _, _, rfl, hnx c⟩
    · rintro σ H1 ⟨rfl, x, v6, v7, rfl, hx⟩
      have hx12 : x.length ≤ 12 := by omega
      refine ⟨_, rfl, _, _, rfl, rfl, ⟨by decide, by decide⟩, _, _, rfl, rfl, (by show (0 : Int) < 2; decide), rfl, _, rfl, ?_⟩
      refine ite2 (fun _ => ?_) (fun _ => ?_)
      · refine ⟨_, rfl, _, _, rfl, rfl, (by show (0 : Int) < 5; decide), rfl, _, rfl, ?_⟩
        refine ite2 (fun _ => ?_) (fun _ => ?_)
        · refine ⟨_, rfl, _, rfl, _, rfl, _, _, rfl, rfl, hsz, _, _, rfl, rfl, _, rfl, x, rfl, str_line (by omega), ?_⟩
          exact ⟨_, rfl, q _ (Nat.le_trans (cutS_length x _ _) hx12)⟩
        · exact ⟨_, rfl, q x hx12⟩
      · exact iteF ⟨_, rfl, q x hx12⟩
end
end GL

/-! G8: text_by, under_shut, number; a pane drawn: the plain part. -/
namespace GL
open PySem PySem.Spec PyProof.Rows L2
open PySem.W (EachIs)
theorem strs_at : ∀ (l : List Str) {z : Int}, 0 ≤ z → z < (l.length : Int) → ∃ x, atI (l.map V.str) z = some (.str x) := by
  intro l z h0 h1
  obtain ⟨j, rfl⟩ : ∃ j : Nat, z = (j : Int) := ⟨z.toNat, by omega⟩
  have hj : j < l.length := by omega
  exact ⟨l[j], atI_nat (by rw [List.getElem?_map, List.getElem?_eq_getElem hj]; rfl)⟩
theorem each_at {β : Type} {R : V → β → Prop} {vs : List V} {bs : List β} (e : EachIs R vs bs) {z : Int} (h0 : 0 ≤ z) (h1 : z < (vs.length : Int)) : ∃ v b, atI vs z = some v ∧ b ∈ bs ∧ R v b := by
  obtain ⟨j, rfl⟩ : ∃ j : Nat, z = (j : Int) := ⟨z.toNat, by omega⟩
  have hj : j < vs.length := by omega
  obtain ⟨b, hb, r⟩ := each_get e (List.getElem?_eq_getElem hj)
  exact ⟨vs[j], b, atI_nat (List.getElem?_eq_getElem hj), List.mem_of_getElem? hb, r⟩
theorem last_at {β : Type} {R : V → β → Prop} {vs : List V} {bs : List β} (e : EachIs R vs bs) (h : 0 < vs.length) : ∃ v b, atI vs (-1) = some v ∧ b ∈ bs ∧ R v b := by
  have hj : vs.length - 1 < vs.length := by omega
  obtain ⟨b, hb, r⟩ := each_get e (List.getElem?_eq_getElem hj)
  refine ⟨vs[vs.length - 1], b, ?_, List.mem_of_getElem? hb, r⟩
  unfold atI ixN
  rw [if_neg (by omega), if_pos (by omega)]
  have e2 : ((-1 : Int) + (vs.length : Int)).toNat = vs.length - 1 := by omega
  rw [e2]
  show vs[vs.length - 1]? = _
  rw [List.getElem?_eq_getElem hj]
theorem inV_joins (m : Str) : inV (.str m) [.str FOLDER, .str SHUT] = joinsM m := by
  unfold joinsM inV
  show ((FOLDER == m) || ((SHUT == m) || false)) = _
  rw [Bool.or_false]
  congr 1
  · by_cases q : m = FOLDER
    · rw [q]; simp
    · rw [decide_eq_false q]; exact (beq_eq_false_iff_ne.mpr fun z => q z.symm)
  · by_cases q : m = SHUT
    · rw [q]; simp
    · rw [decide_eq_false q]; exact (beq_eq_false_iff_ne.mpr fun z => q z.symm)

/-! ### a pane that grows -/
structure PInv (n : Nat) (es : List Ent) (fs : List Way) : Prop where
  nd : (es.map (·.1)).Nodup
  root : ∀ e ∈ es, e.1 = [] → e.2.1 = SHUT
  up : ∀ e ∈ es, ∀ k, 0 < k → k < e.1.length → ∃ t, look es (e.1.take k) = some t ∧ joinsM t.1 = true
  short : ∀ e ∈ es, e.1.length ≤ 14
  few : es.length ≤ n
  fold : ∀ f ∈ fs, f = [] ∨ ∃ t, look es f = some t ∧ joinsM t.1 = true
  ne : fs ≠ []
  fl : fs.length ≤ n
theorem pinv_0 : PInv 1 [] [[]] := ⟨by simp, by simp, by simp, by simp, by simp, fun f hf => .inl (List.mem_singleton.mp hf), by simp, by simp⟩
theorem pinv_1 (x : Str) : PInv 1 [([], (SHUT, x))] [[]] := by
  refine ⟨by simp, fun e he _ => ?_, fun e he k h1 h2 => ?_, fun e he => ?_, by simp, fun f hf => .inl (List.mem_singleton.mp hf), by simp, by simp⟩
  · rw [List.mem_singleton.mp he]
  · rw [List.mem_singleton.mp he] at h2
    exact absurd h2 (Nat.not_lt_zero _)
  · rw [List.mem_singleton.mp he]
    exact Nat.zero_le _
theorem PInv.mono {n m : Nat} {es : List Ent} {fs : List Way} (h : PInv n es fs) (hm : n ≤ m) : PInv m es fs := ⟨h.nd, h.root, h.up, h.short, Nat.le_trans h.few hm, h.fold, h.ne, Nat.le_trans h.fl hm⟩
theorem look_snoc {es : List Ent} {w u : Way} {t : Thing} (hn : look es w = none) : look (es ++ [(w, t)]) u = if w = u then some t else look es u := by
  rw [look_append, look_cons, look_nil]
  by_cases h : w = u
  · subst h
    rw [hn]
    simp
  · rw [if_neg h, if_neg h]
    exact Option.or_none
theorem look_old {es : List Ent} {w u : Way} {t t' : Thing} (hn : look es w = none) (h : look es u = some t') : look (es ++ [(w, t)]) u = some t' := by
  rw [look_snoc hn, if_neg, h]
  rintro rfl
  rw [hn] at h
  cases h
/-- one entry more, under one of the folders -/
theorem PInv.add {n : Nat} {es : List Ent} {fs : List Way} (h : PInv n es fs) {f : Way} (hf : f ∈ fs) {x : Str} (hn : look es (f ++ [x]) = none) (hl : (f ++ [x]).length ≤ 14) (t : Thing) :
    PInv (n + 1) (es ++ [(f ++ [x], t)]) fs ∧ (joinsM t.1 = true → PInv (n + 1) (es ++ [(f ++ [x], t)]) (fs ++ [f ++ [x]])) := by
  have nd' : ((es ++ [(f ++ [x], t)]).map (·.1)).Nodup := by
    rw [List.map_append, List.nodup_append]
    refine ⟨h.nd, by simp, ?_⟩
    intro a ha b hb hab
    obtain ⟨e, he, rfl⟩ := List.mem_map.mp ha
    rw [List.map_singleton, List.mem_singleton] at hb
    exact look_none.mp hn e he (hab.trans hb)
  have root' : ∀ e ∈ es ++ [(f ++ [x], t)], e.1 = [] → e.2.1 = SHUT := by
    intro e he h0
    rcases List.mem_append.mp he with he | he
    · exact h.root e he h0
    · rw [List.mem_singleton.mp he] at h0
      exact absurd h0 (by simp)
  have up' : ∀ e ∈ es ++ [(f ++ [x], t)], ∀ k, 0 < k → k < e.1.length → ∃ t', look (es ++ [(f ++ [x], t)]) (e.1.take k) = some t' ∧ joinsM t'.1 = true := by
    intro e he k h1 h2
    rcases List.mem_append.mp he with he | he
    · obtain ⟨t', e1, e2⟩ := h.up e he k h1 h2
      exact ⟨t', look_old hn e1, e2⟩
    · rw [List.mem_singleton.mp he] at h2 ⊢
      dsimp only at h2 ⊢
      rw [List.length_append, List.length_singleton] at h2
      have hk : k ≤ f.length := by omega
      rw [List.take_append_of_le_length hk]
      by_cases q : k = f.length
      · subst q
        rw [List.take_length]
        rcases h.fold f hf with z | ⟨t', e1, e2⟩
        · subst z
          exact absurd h1 (Nat.lt_irrefl _)
        · exact ⟨t', look_old hn e1, e2⟩
      · rcases h.fold f hf with z | ⟨t', e1, e2⟩
        · subst z
          rw [List.length_nil] at hk
          omega
        · obtain ⟨t2, e3, e4⟩ := h.up _ (look_mem e1) k h1 (by dsimp only; omega)
          exact ⟨t2, look_old hn e3, e4⟩
  have short' : ∀ e ∈ es ++ [(f ++ [x], t)], e.1.length ≤ 14 := by
    intro e he
    rcases List.mem_append.mp he with he | he
    · exact h.short e he
    · rw [List.mem_singleton.mp he]
      exact hl
  have few' : (es ++ [(f ++ [x], t)]).length ≤ n + 1 := by
    rw [List.length_append, List.length_singleton]
    exact Nat.succ_le_succ h.few
  have fold' : ∀ g ∈ fs, g = [] ∨ ∃ t', look (es ++ [(f ++ [x], t)]) g = some t' ∧ joinsM t'.1 = true := by
    intro g hg
    rcases h.fold g hg with z | ⟨t', e1, e2⟩
    · exact .inl z
    · exact .inr ⟨t', look_old hn e1, e2⟩
  refine ⟨⟨nd', root', up', short', few', fold', h.ne, Nat.le_succ_of_le h.fl⟩, fun hj => ⟨nd', root', up', short', few', fun g hg => ?_, by simp, ?_⟩⟩
  · rcases List.mem_append.mp hg with hg | hg
    · exact fold' g hg
    · rw [List.mem_singleton.mp hg]
      exact .inr ⟨t, by rw [look_snoc hn, if_pos rfl], hj⟩
  · rw [List.length_append, List.length_singleton]
    exact Nat.succ_le_succ h.fl
/-- the entries in the order of their ways -/
def orderM (es : List Ent) : List Ent := ((es.map (·.1)).mergeSort wle).map (entM es)
theorem order_ways (es : List Ent) : (orderM es).map (·.1) = (es.map (·.1)).mergeSort wle := by
  unfold orderM
  rw [List.map_map]
  show List.map (fun w => w) _ = _
  rw [List.map_id']
theorem order_mem {es : List Ent} (nd : (es.map (·.1)).Nodup) (e : Ent) : e ∈ orderM es ↔ e ∈ es := by
  unfold orderM
  rw [List.mem_map]
  constructor
  · rintro ⟨w, hw, rfl⟩
    rw [(List.mergeSort_perm _ wle).mem_iff] at hw
    obtain ⟨f, hf, rfl⟩ := List.mem_map.mp hw
    have e1 : entM es f.1 = f := by
      unfold entM
      rw [look_of nd hf]
      rfl
    rw [e1]
    exact hf
  · intro he
    refine ⟨e.1, (List.mergeSort_perm _ wle).mem_iff.mpr (List.mem_map_of_mem he), ?_⟩
    unfold entM
    rw [look_of nd he]
    rfl
theorem order_nd {es : List Ent} (nd : (es.map (·.1)).Nodup) : ((orderM es).map (·.1)).Nodup := by
  rw [order_ways]
  exact (List.mergeSort_perm _ wle).nodup_iff.mpr nd
theorem order_look {es : List Ent} (nd : (es.map (·.1)).Nodup) (w : Way) : look (orderM es) w = look es w := by
  cases q : look es w with
  | some t => exact look_of (order_nd nd) ((order_mem nd (w, t)).mpr (look_mem q))
  | none =>
    rw [look_none]
    intro e he
    exact look_none.mp q e ((order_mem nd e).mp he)
theorem order_length (es : List Ent) : (orderM es).length = es.length := by
  unfold orderM
  rw [List.length_map, (List.mergeSort_perm _ wle).length_eq, List.length_map]
theorem PInv.ok {es : List Ent} {fs : List Way} (h : PInv 5 es fs) : PaneOk (orderM es) := by
  refine ⟨order_nd h.nd, fun e he => h.root e ((order_mem h.nd e).mp he), fun e he k h1 h2 => ?_, fun e he => ?_, by rw [order_length]; exact h.few⟩
  · rw [order_look h.nd]
    exact h.up e ((order_mem h.nd e).mp he) k h1 h2
  · have := h.short e ((order_mem h.nd e).mp he)
    omega
section
variable {P : Program} {w : World} {K : PySem.W.Frag} {mg : Str → Option Value} {base : Heap}
theorem pow30 : (10 : Int) ^ (30 : Int).toNat = 1000000000000000000000000000000 := by decide
theorem num_log {i : Int} (h0 : 0 ≤ i) (h1 : i < 1000000000000000000000000000000) : i.natAbs.log2 < 1920 := by
  by_cases z : i.natAbs = 0
  · rw [z]; decide
  · rw [Nat.log2_lt z]
    have : i.natAbs < 2 ^ 100 := by omega
    exact Nat.lt_of_lt_of_le this (Nat.pow_le_pow_right (by decide) (show 100 ≤ 1920 by decide))
theorem num_len {i : Int} (h0 : 0 ≤ i) (h1 : i < 1000000000000000000000000000000) : (PySem.Str.ofString (toString i)).length ≤ 30 := PyProof.Rows.toString_length_le h0 (by decide) (by omega)
theorem sc_text_by : FnScope ["_law_mark", "_law_cell", "_law_stem", "_law_wide", "_law_name", "_law_more", "_law_some"] ["_law_mark", "_law_cell", "_law_stem", "_law_wide"] (defScope sTextBy) := ⟨rfl, rfl, rfl, by decide +kernel, rfl, by decide +kernel, by decide +kernel⟩
theorem ok_text_by {f fM fN : Addr} {fd fdM fdN : FuncData} (F : Fun K "_law_text_by" "_law_text_by" sTextBy f fd) (T : Txt mg) (FM : Fun K "_law_mixed" "_law_mixed" sMixed fM fdM) (bM : Binds K fdM ["_law_cell", "_law_turn", "_law_many"] []) (gM : mg "_law_mixed" = some (.ref fM))
    (FN : Fun K "_law_name_by" "_law_name_by" sNameBy fN fdN) (bN : Binds K fdN ["_law_stem", "_law_v"] []) (gN : mg "_law_name_by" = some (.ref fN)) : FnOk P w K mg base CX0 2 f fd ["_law_mark", "_law_cell", "_law_stem", "_law_wide"] spTextBy := by
  have GM : FnOk P w K mg base CX0 1 fM fdM ["_law_cell", "_law_turn", "_law_many"] spMixed := ok_mixed FM
  have GN : FnOk P w K mg base CX0 1 fN fdN ["_law_stem", "_law_v"] spNameBy := ok_name_by FN T
  refine F.ok sc_text_by (fun vs H Q E h => ?_) (fun cdv A outer s H vs Q E hr h => ?_)
  · obtain ⟨m, c, st, wd, rfl, _⟩ := h
    rfl
  · obtain ⟨m, c, st, wd, rfl, hst, hw, q⟩ := h
    refine ⟨_, pss_cons (ps_if (pt_cmpR op_eq (pv 0) pe_str (nomark _)) (pss_one (ps_ret (pe_ix ix_tup (pe_tup (pa_cons pe_str (pa_cons pe_str (pa_cons (pe_op op_add_str (pe_callTy call_str_int (by rfl) T.str (by decide +kernel) (pa_cons (pe_op op_mod (pv 1) (pe_op op_pow pe_int pe_int)) pa_nil)) pe_str) pa_nil))))
          (pe_call GM hr rfl gM FM.kp bM .nil pass0 (pa_cons (pv 1) (pa_cons pe_int (pa_cons pe_int pa_nil)))) (fun _ _ => rfl)))) pss_nil)
      (pss_cons (ps_if (pt_cmpR op_ne (pv 0) pe_str (nomark _)) (pss_one (ps_ret pe_str)) pss_nil)
      (pss_cons (ps_set (i := 4) sc_text_by.nd rfl (Or.inl rfl) (pe_call GN hr rfl gN FN.kp bN .nil pass0 (pa_cons (pv 2) (pa_cons (pe_call GM hr rfl gM FM.kp bM .nil pass0 (pa_cons (pv 1) (pa_cons pe_int (pa_cons (pv 3) pa_nil)))) pa_nil))))
      (pss_cons (ps_set (i := 5) sc_text_by.nd rfl (Or.inl rfl) (pe_call GN hr rfl gN FN.kp bN .nil pass0 (pa_cons (pv 2) (pa_cons (pe_call GM hr rfl gM FM.kp bM .nil pass0 (pa_cons (pv 1) (pa_cons pe_int (pa_cons (pv 3) pa_nil)))) pa_nil))))
      (pss_cons (ps_set (i := 6) sc_text_by.nd rfl (Or.inl rfl) (pe_tup (pa_cons pe_str (pa_cons (pe_op op_add_str pe_str (pv 4)) (pa_cons (pv 4) (pa_cons (pe_op op_add_str pe_str (pv 4)) (pa_cons (pe_op op_add_str (pe_op op_add_str (pe_op op_add_str pe_str (pv 4)) pe_str) (pv 5))
          (pa_cons (pe_op op_add_str (pe_op op_add_str pe_str (pv 4)) pe_str) (pa_cons pe_str (pa_cons pe_str pa_nil))))))))))
      (pss_one (ps_ret (pe_ix ix_tup (pv 6) (pe_call GM hr rfl gM FM.kp bM .nil pass0 (pa_cons (pv 1) (pa_cons pe_int (pa_cons pe_int pa_nil)))) (fun _ _ => rfl)))))))), ?_⟩
    refine ⟨_, rfl, rfl, _, rfl, ?_⟩
    refine ite2 (fun _ => ?_) (fun _ => ?_)
    · -- a file's text
      have hp : (0 : Int) < 10 ^ (30 : Int).toNat := by decide
      have e1 := Int.emod_nonneg c (b := (10 : Int) ^ (30 : Int).toNat) (by omega)
      have e2 := Int.emod_lt_of_pos c hp
      rw [pow30] at e2
      have hln := num_len e1 e2
      have l2 : ((" ~" : String) : Str).length = 2 := by decide +kernel
      refine ⟨_, rfl, _, _, rfl, rfl, ⟨by decide, by decide, by decide⟩, _, _, rfl, rfl, hp, _, rfl, num_log e1 e2, _, _, rfl, rfl, str_line (by rw [l2]; omega), (by show 3 ≤ sizeLine; decide), fun p hp => ?_⟩
      refine ⟨_, rfl, _, _, _, rfl, (by show (0 : Int) < 3; decide), fun H1 z s1 h0 h1 => ?_⟩
      obtain ⟨x, ex⟩ := strs_at [(("" : String) : Str), (("as it was" : String) : Str), PySem.Str.ofString (toString (c % (10 : Int) ^ (30 : Int).toNat)) ++ ((" ~" : String) : Str)] h0 h1
      exact ⟨p, _, _, _, rfl, rfl, SqT.of (s1 _ _ upd_same), ex, q _ x ((same_new hp).trans s1)⟩
    · refine ⟨_, rfl, rfl, _, rfl, ?_⟩
      refine ite2 (fun _ => ?_) (fun _ => ?_)
      · exact q _ _ (Same.refl _)
      · refine ⟨_, rfl, _, rfl, _, rfl, _, _, _, rfl, hw, fun H1 z1 s1 _ _ => ?_⟩
        refine ⟨_, _, rfl, hst, fun x hx => ?_⟩
        refine ⟨_, rfl, _, rfl, _, rfl, _, _, _, rfl, hw, fun H2 z2 s2 _ _ => ?_⟩
        refine ⟨_, _, rfl, hst, fun y hy => ?_⟩
        have l1 : (("/" : String) : Str).length = 1 := by decide +kernel
        have l3 : (("../" : String) : Str).length = 3 := by decide +kernel
        have l2 : (("./" : String) : Str).length = 2 := by decide +kernel
        have l4 : (("/.." : String) : Str).length = 3 := by decide +kernel
        refine ⟨_, rfl, _, _, rfl, rfl, str_line (by rw [l1]; omega), _, rfl, _, rfl, _, _, rfl, rfl, str_line (by rw [l3]; omega), _, rfl, _, _, rfl, rfl, str_line (by rw [l2]; omega), _, _, rfl, rfl, str_line (by rw [str_app_len, l2, l1]; omega), _, rfl, _, _, rfl, rfl, str_line (by rw [str_app_len, str_app_len, l2, l1]; omega),
          _, rfl, _, _, rfl, rfl, str_line (by rw [l1]; omega), _, _, rfl, rfl, str_line (by rw [str_app_len, l1, l4]; omega), (by show 8 ≤ sizeLine; decide), fun p hp => ?_⟩
        refine ⟨_, rfl, _, rfl, _, _, _, rfl, (by show (0 : Int) < 8; decide), fun H3 z s3 h0 h1 => ?_⟩
        obtain ⟨u, eu⟩ := strs_at [(("/" : String) : Str), (("/" : String) : Str) ++ x, x, (("../" : String) : Str) ++ x, (("./" : String) : Str) ++ x ++ (("/" : String) : Str) ++ y, (("/" : String) : Str) ++ x ++ (("/.." : String) : Str), ((".." : String) : Str), (("." : String) : Str)] h0 h1
        exact ⟨p, _, _, _, rfl, rfl, SqT.of (s3 _ _ upd_same), eu, q _ u (s1.trans (s2.trans ((same_new hp).trans s3)))⟩
theorem sc_under_shut : FnScope ["_law_things", "_law_way", "_law_k"] ["_law_things", "_law_way"] (defScope sUnderShut) := ⟨rfl, rfl, rfl, by decide +kernel, rfl, by decide +kernel, by decide +kernel⟩
theorem ok_under_shut {f : Addr} {fd : FuncData} (F : Fun K "_law_under_shut" "_law_under_shut" sUnderShut f fd) (T : Txt mg) : FnOk P w K mg base CX0 1 f fd ["_law_things", "_law_way"] spUnderShut := by
  refine F.ok sc_under_shut (fun vs H Q E h => ?_) (fun cdv A outer s H vs Q E hr h => ?_)
  · obtain ⟨d, es, v, w, rfl, _⟩ := h
    rfl
  · obtain ⟨d, es, v, w, rfl, D, hW, hl, k⟩ := h
    obtain ⟨b, rfl, hb⟩ := hW
    refine ⟨_, pss_cons (ps_for PassesOwn.never rfl (pi_range1 rfl T.range (pa_cons (pe_callB call_len_seq (by rfl) T.len PySem.boot_len (pa_cons (pv 1) pa_nil)) pa_nil)) (pg_name (i := 2) sc_under_shut.nd rfl (Or.inl rfl))
        (pss_one (ps_if (PW.pt (pw_and (pt_cmp (pc_din (hu_of hr) (pe_slice sl_tupA (pv 1) po_none (po_some (pv 2))) (pv 0)) (by rfl))
            (pw_and1 (pt_cmpR op_eq (pe_ix ix_tup (pe_dget (hu_of hr) (pv 0) (pe_slice sl_tupA (pv 1) po_none (po_some (pv 2))) (fun _ _ => rfl)) pe_int (fun _ _ => rfl)) pe_str (nomark _)))))
            (pss_one (ps_ret pe_bl)) pss_nil)))
      (pss_one (ps_ret pe_bl)), ?_⟩
    have hlen : (w.map V.str).length = w.length := List.length_map ..
    refine ⟨_, rfl, b, _, rfl, .inr (SqT.of hb), _, rfl, (len_small (by rw [hlen]; exact hl)).1, (len_small (by rw [hlen]; exact hl)).2, ?_⟩
    refine for_range (lo := 0) (n := ((w.map V.str).length : Int).toNat) (fun i σ H' => ∃ v2 : Option V, σ = [some (.ref d), some (.ref b), v2] ∧ Same H H')
      ⟨none, rfl, Same.refl _⟩ ?_ ?_
    · rintro i σ H1 hi ⟨v2, rfl, s1⟩
      have hi' : i < w.length := by rw [Int.toNat_natCast, hlen] at hi; exact hi
      have hz : (0 : Int) + (i : Nat) = (i : Int) := Int.zero_add _
      refine ⟨_, rfl, _, rfl, _, rfl, b, _, rfl, SqT.of (s1 _ _ hb), fun q => absurd q (cut_lt hz (by rw [hlen]; exact hi')), fun _ p hp => ?_⟩
      have s2 : Same H1 (upd H1 p (.tup (cutV (w.map V.str) none (some ((0 : Int) + (i : Nat)))))) := same_new hp
      have hw := way_cut (H := H1) (p := p) hz hi'
      have D2 := (D.same mono_th s1).same mono_th s2
      cases e : look es (w.take i) with
      | none => exact ⟨_, rfl, d, _, rfl, D2.none_ hw e, _, rfl, iteF (iteF ⟨_, rfl, s1.trans s2⟩)⟩
      | some t =>
        obtain ⟨v, g, a, rfl, ha⟩ := D2.some_ hw e
        refine ⟨_, rfl, d, _, rfl, g, _, rfl, iteT ?_⟩
        have hb2 := s2 _ _ (s1 _ _ hb)
        refine ⟨_, rfl, _, rfl, _, rfl, _, rfl, b, _, rfl, SqT.of hb2, fun q => absurd q (cut_lt hz (by rw [hlen]; exact hi')), fun _ p2 hp2 => ?_⟩
        have s3 := same_new (o := .tup (cutV (w.map V.str) none (some ((0 : Int) + (i : Nat))))) hp2
        have hw2 := way_cut (H := (upd H1 p (.tup (cutV (w.map V.str) none (some ((0 : Int) + (i : Nat))))))) (p := p2) hz hi'
        obtain ⟨v, g2, a2, rfl, ha2⟩ := (D2.same mono_th s3).some_ hw2 e
        refine ⟨d, _, rfl, g2, a2, _, _, _, rfl, rfl, SqT.of ha2, rfl, rfl, _, rfl, ?_⟩
        refine ite2 (fun _ => ?_) (fun _ => ?_)
        · exact k _ _ (s1.trans (s2.trans s3))
        · exact ⟨_, rfl, s1.trans (s2.trans s3)⟩
    · rintro σ H1 ⟨v2, rfl, s1⟩
      exact k _ _ s1
theorem sc_number : FnScope ["_law_cell", "_law_many", "_law_kind"] ["_law_cell", "_law_many"] (defScope sNumber) := ⟨rfl, rfl, rfl, by decide +kernel, rfl, by decide +kernel, by decide +kernel⟩
theorem ok_number {f fM : Addr} {fd fdM : FuncData} (F : Fun K "_law_number" "_law_number" sNumber f fd) (FM : Fun K "_law_mixed" "_law_mixed" sMixed fM fdM) (bM : Binds K fdM ["_law_cell", "_law_turn", "_law_many"] []) (gM : mg "_law_mixed" = some (.ref fM)) :
    FnOk P w K mg base CX0 2 f fd ["_law_cell", "_law_many"] spNumber := by
  have GM : FnOk P w K mg base CX0 1 fM fdM ["_law_cell", "_law_turn", "_law_many"] spMixed := ok_mixed FM
  refine F.ok sc_number (fun vs H Q E h => ?_) (fun cdv A outer s H vs Q E hr h => ?_)
  · obtain ⟨c, m, rfl, _⟩ := h
    rfl
  · obtain ⟨c, m, rfl, hm, q⟩ := h
    have hp : (0 : Int) < 10 ^ (30 : Int).toNat := by decide
    refine ⟨_, pss_cons (ps_set (i := 2) sc_number.nd rfl (Or.inl rfl) (pe_call GM hr rfl gM FM.kp bM .nil pass0 (pa_cons (pv 0) (pa_cons pe_int (pa_cons pe_int pa_nil)))))
      (pss_cons (ps_if (PW.pt (pw_and (pt_cmpR op_eq (pv 2) pe_int (nomark _)) (pw_and1 (pt_cmpR op_eq (pe_op op_mod (pv 0) pe_int) pe_int (nomark _)))))
        (pss_one (ps_ret (pe_op op_sub (pe_un un_neg pe_int) (pe_op op_mod (pv 0) (pe_op op_pow pe_int pe_int))))) pss_nil)
      (pss_cons (ps_if (pt_cmpR op_eq (pv 2) pe_int (nomark _)) (pss_one (ps_ret (pe_op op_sub (pe_un un_neg pe_int) (pe_call GM hr rfl gM FM.kp bM .nil pass0 (pa_cons (pv 0) (pa_cons pe_int (pa_cons (pe_op op_add (pv 1) pe_int) pa_nil))))))) pss_nil)
      (pss_cons (ps_if (pt_cmpR op_eq (pv 2) pe_int (nomark _)) (pss_one (ps_ret (pe_op op_add (pv 1) (pe_op op_mod (pv 0) (pe_op op_pow pe_int pe_int))))) pss_nil)
      (pss_one (ps_ret (pe_call GM hr rfl gM FM.kp bM .nil pass0 (pa_cons (pv 0) (pa_cons pe_int (pa_cons (pe_op op_add (pv 1) pe_int) pa_nil))))))))), ?_⟩
    refine ⟨_, rfl, _, _, _, rfl, (by show (0 : Int) < 12; decide), fun H1 z s1 _ _ => ?_⟩
    have tl : ∀ (B : Prop), B → B := fun _ h => h
    refine ⟨_, rfl, rfl, _, rfl, ?_⟩
    refine ite2 (fun c0 => ?_) (fun c0 => ?_)
    · refine ⟨_, rfl, _, _, rfl, rfl, (by show (0 : Int) < 2; decide), rfl, _, rfl, ?_⟩
      refine ite2 (fun _ => ?_) (fun _ => ?_)
      · exact ⟨_, rfl, _, rfl, _, _, rfl, rfl, ⟨by decide, by decide, by decide⟩, _, _, rfl, rfl, hp, _, _, rfl, rfl, q _ _ s1⟩
      · refine ⟨_, rfl, rfl, _, rfl, ?_⟩
        rw [c0]
        exact iteT ⟨_, rfl, _, rfl, _, rfl, _, _, rfl, rfl, _, _, _, rfl, by omega, fun H2 z2 s2 _ _ => ⟨_, _, rfl, rfl, q _ _ (s1.trans s2)⟩⟩
    · refine iteF ?_
      refine ⟨_, rfl, rfl, _, rfl, ?_⟩
      refine ite2 (fun c1 => absurd c1 c0) (fun _ => ?_)
      refine ⟨_, rfl, rfl, _, rfl, ?_⟩
      refine ite2 (fun _ => ?_) (fun _ => ?_)
      · exact ⟨_, rfl, _, rfl, _, _, rfl, rfl, ⟨by decide, by decide, by decide⟩, _, _, rfl, rfl, hp, _, _, rfl, rfl, q _ _ s1⟩
      · exact ⟨_, rfl, _, rfl, _, _, rfl, rfl, _, _, _, rfl, by omega, fun H2 z2 s2 _ _ => q _ _ (s1.trans s2)⟩
end
end GL

/-! G9: a pane drawn. -/
namespace GL
open PySem PySem.Spec PyProof.Rows L2
open PySem.W (EachIs)
open C8 (pss_cut tCut)
theorem op_catK {X : Cx} {K : PySem.W.Frag} (h : X.K = K) : OpR X (binaryOp .Add) (rCatA K) := by
  subst h
  exact op_catA
/-- the dict of things at d, the list of folders at r -/
def StP (H H' : Hp) (d r : Addr) (es : List Ent) (fs : List Way) : Prop := Same H H' ∧ DictR ThV H' d es ∧ ∃ rs, H' r = some (.lst rs) ∧ EachIs (WV H') rs fs
section
variable {H H1 H2 : Hp} {d r b : Addr} {es : List Ent} {fs : List Way} {w : Way} {t : Thing} {v : V}
theorem StP.same (h : StP H H1 d r es fs) (s : Same H1 H2) : StP H H2 d r es fs := by
  obtain ⟨h1, h2, rs, h3, h4⟩ := h
  exact ⟨h1.trans s, h2.same mono_th s, rs, s _ _ h3, h4.mono fun _ _ z => z.tst (tst_of s)⟩
theorem StP.put (h : StP H H1 d r es fs) (hd : H d = none) (hb : WayAt H1 b w) (e : look es w = none) (hv : ThV H1 v t) (hl : es.length ≤ 1000) :
    ∃ H2, DPut H1 d (.ref b) v H2 ∧ StP H H2 d r (es ++ [(w, t)]) fs ∧ Tst H1 H2 := by
  obtain ⟨h1, h2, rs, h3, h4⟩ := h
  obtain ⟨kvs, hk⟩ := h2.at_
  obtain ⟨o, g, D, s⟩ := h2.put mono_th hb e hv (line_big (by omega))
  have nrd : r ≠ d := ne_of h3 hk (by intro q; cases q)
  exact ⟨_, g, ⟨same_upd h1 hd, D, rs, by rw [upd_ne nrd]; exact h3, h4.mono fun _ _ z => z.tst s⟩, s⟩
theorem StP.app {rs : List V} (h1 : Same H H1) (h2 : DictR ThV H1 d es) (h3 : H1 r = some (.lst rs)) (h4 : EachIs (WV H1) rs fs) (hr : H r = none) (hv : WV H1 v w) : StP H (upd H1 r (.lst (rs ++ [v]))) d r es (fs ++ [w]) := by
  obtain ⟨kvs, hk⟩ := h2.at_
  have s : Tst H1 (upd H1 r (.lst (rs ++ [v]))) := tst_lst h3
  exact ⟨same_upd h1 hr, h2.mono mono_th s (upd_ne (ne_of hk h3 (by intro q; cases q))), _, upd_same, each_app (h4.mono fun _ _ z => z.tst s) (each_one (hv.tst s))⟩
end
def spPaneBy : Sp := fun vs H Q _ => ∃ (c : Addr) (zs : List Int) (st : Int), vs = [.ref c, .int st] ∧ H c = some (.lst (zs.map V.int)) ∧ zs.length ≤ 4 ∧ 0 ≤ st ∧ ∀ (H' : Hp) (r : Addr) (es : List Ent), Same H H' → H r = none → PaneV H' (.ref r) es → PaneOk es → Q (.ref r) H'
section
variable {P : Program} {w : World} {K : PySem.W.Frag} {mg : Str → Option Value} {base : Heap}
theorem sc_pane_by : FnScope ["_law_cells_here", "_law_stem", "_law_wide", "_law_things", "_law_folders", "_law_cell", "_law_over", "_law_way", "_law_mark"] ["_law_cells_here", "_law_stem"] (defScope sPaneBy) := ⟨rfl, rfl, rfl, by decide +kernel, rfl, by decide +kernel, by decide +kernel⟩
theorem ok_pane_by {f fM fN fU fT : Addr} {fd fdM fdN fdU fdT : FuncData} (F : Fun K "_law_pane_by" "_law_pane_by" sPaneBy f fd) (T : Txt mg) (FM : Fun K "_law_mixed" "_law_mixed" sMixed fM fdM) (bM : Binds K fdM ["_law_cell", "_law_turn", "_law_many"] []) (gM : mg "_law_mixed" = some (.ref fM))
    (FN : Fun K "_law_name_by" "_law_name_by" sNameBy fN fdN) (bN : Binds K fdN ["_law_stem", "_law_v"] []) (gN : mg "_law_name_by" = some (.ref fN)) (FU : Fun K "_law_under_shut" "_law_under_shut" sUnderShut fU fdU) (bU : Binds K fdU ["_law_things", "_law_way"] []) (gU : mg "_law_under_shut" = some (.ref fU))
    (FT : Fun K "_law_text_by" "_law_text_by" sTextBy fT fdT) (bT : Binds K fdT ["_law_mark", "_law_cell", "_law_stem", "_law_wide"] []) (gT : mg "_law_text_by" = some (.ref fT)) : FnOk P w K mg base CX0 3 f fd ["_law_cells_here", "_law_stem"] spPaneBy := by
  have GM : FnOk P w K mg base CX0 1 fM fdM ["_law_cell", "_law_turn", "_law_many"] spMixed := ok_mixed FM
  have GN : FnOk P w K mg base CX0 1 fN fdN ["_law_stem", "_law_v"] spNameBy := ok_name_by FN T
  have GU : FnOk P w K mg base CX0 1 fU fdU ["_law_things", "_law_way"] spUnderShut := ok_under_shut FU T
  have GT : FnOk P w K mg base CX0 2 fT fdT ["_law_mark", "_law_cell", "_law_stem", "_law_wide"] spTextBy := ok_text_by FT T FM bM gM FN bN gN
  refine F.ok sc_pane_by (fun vs H Q E h => ?_) (fun cdv A outer s H vs Q E hr h => ?_)
  · obtain ⟨c, zs, st, rfl, _⟩ := h
    rfl
  · obtain ⟨c, zs, st, rfl, hC, hl, hst, k⟩ := h
    have hr1 : Room 1 _ := hr.mono (by decide)
    refine ⟨_, pss_cons (ps_set (i := 2) sc_pane_by.nd rfl (Or.inl rfl) (pe_op op_add pe_int (pe_op op_mod (pe_op op_fdiv (pv 1) pe_int) pe_int)))
      (pss_cons (ps_set (i := 3) sc_pane_by.nd rfl (Or.inr rfl) pe_dnewT)
      (pss_cons (ps_set (i := 4) sc_pane_by.nd rfl (Or.inl rfl) (pe_lst (pa_cons (pe_tup pa_nil) pa_nil)))
      (pss_cut (ps_if (PW.pt (pw_and (pt_cmpR op_gt (pe_callB call_len_seq (by rfl) T.len PySem.boot_len (pa_cons (pv 0) pa_nil)) pe_int (nomark _))
          (pw_and1 (pt_cmpR op_eq (pe_call GM hr1 rfl gM FM.kp bM .nil pass0 (pa_cons (pe_ix ix_list (pv 0) pe_int (fun _ _ => rfl)) (pa_cons pe_int (pa_cons pe_int pa_nil)))) pe_int (nomark _)))))
        (pss_one (ps_dput (hu_of hr) (pv 3) (pe_tup pa_nil) (pe_tup (pa_cons pe_str (pa_cons pe_str pa_nil))) rfl)) pss_nil)
      (pss_cons (ps_for PassesOwn.never rfl (pi_list (pv 0)) (pg_name (i := 5) sc_pane_by.nd rfl (Or.inl rfl))
        (pss_cons (ps_set (i := 6) sc_pane_by.nd rfl (Or.inl rfl) (pe_ix ix_list (pv 4) (pe_call GM hr1 rfl gM FM.kp bM .nil pass0 (pa_cons (pv 5) (pa_cons pe_int (pa_cons (pe_callB call_len_seq (by rfl) T.len PySem.boot_len (pa_cons (pv 4) pa_nil)) pa_nil)))) (fun _ _ => rfl)))
        (pss_cut (ps_if (pt_cmpR op_eq (pe_call GM hr1 rfl gM FM.kp bM .nil pass0 (pa_cons (pv 5) (pa_cons pe_int (pa_cons pe_int pa_nil)))) pe_int (nomark _))
          (pss_one (ps_set (i := 6) sc_pane_by.nd rfl (Or.inl rfl) (pe_ix ix_list (pv 4) (pe_un un_neg pe_int) (fun _ _ => rfl)))) pss_nil)
        (pss_cut (ps_set (i := 7) sc_pane_by.nd rfl (Or.inl rfl) (pe_op op_catA (pv 6) (pe_tup (pa_cons (pe_call GN hr1 rfl gN FN.kp bN .nil pass0 (pa_cons (pv 1) (pa_cons (pe_call GM hr1 rfl gM FM.kp bM .nil pass0 (pa_cons (pv 5) (pa_cons pe_int (pa_cons (pv 2) pa_nil)))) pa_nil))) pa_nil))))
        (pss_one (ps_if (PW.pt (pw_and (pt_cmp (pc_dnotin (hu_of hr) (pv 7) (pv 3)) (by rfl)) (pw_and1 (pt_cmpR op_lt (pe_callB call_len_seq (by rfl) T.len PySem.boot_len (pa_cons (pv 7) pa_nil)) pe_int (nomark _)))))
          (pss_cons (ps_set (i := 8) sc_pane_by.nd rfl (Or.inl rfl) (pe_ix ix_tup (pe_tup (pa_cons pe_str (pa_cons pe_str (pa_cons pe_str (pa_cons pe_str (pa_cons pe_str (pa_cons pe_str (pa_cons pe_str pa_nil)))))))) (pe_call GM hr1 rfl gM FM.kp bM .nil pass0 (pa_cons (pv 5) (pa_cons pe_int (pa_cons pe_int pa_nil)))) (fun _ _ => rfl)))
          (pss_cut (ps_if (PW.pt (pw_and (pt_val (pe_call GU hr1 rfl gU FU.kp bU .nil pass0 (pa_cons (pv 3) (pa_cons (pv 7) pa_nil)))) (pw_and1 (pt_cmpR op_in_seq (pv 8) (pe_tup (pa_cons pe_str (pa_cons pe_str pa_nil))) (by rfl)))))
            (pss_one (ps_set (i := 8) sc_pane_by.nd rfl (Or.inl rfl) pe_str)) pss_nil)
          (pss_cons (ps_dput (hu_of hr) (pv 3) (pv 7) (pe_tup (pa_cons (pv 8) (pa_cons (pe_call GT hr rfl gT FT.kp bT .nil pass0 (pa_cons (pv 8) (pa_cons (pv 5) (pa_cons (pv 1) (pa_cons (pv 2) pa_nil))))) pa_nil))) rfl)
          (pss_one (ps_if (pt_cmpR op_in_seq (pv 8) (pe_tup (pa_cons pe_str (pa_cons pe_str pa_nil))) (by rfl))
            (pss_one (ps_expr (pe_bm PySem.F.plainAttrs_list PySem.F.slot_list_append PySem.F.type_list_append mt_append (pv 4) (pa_cons (pv 7) pa_nil)))) pss_nil))))) pss_nil))))))
      (pss_one (ps_ret (pe_lc (own := [("_law_way", 7)]) (g := gName 7) (tt := tYes) (by rfl) sc_pane_by.nd (pi_list (pe_callB (call_sortG (R := WV) (enc := wD) (fun _ _ _ z => z.dp) alike_w (fun _ => ⟨_, rfl⟩) (fun e => by rw [depth_w]; decide) hr.units) (by rfl) T.sorted (by decide +kernel) (pa_cons (pe_callTy (call_list_dT rfl) (by rfl) T.list (by decide +kernel) (pa_cons (pv 3) pa_nil)) pa_nil)))
          (blkOk_by (own := [("_law_way", 7)]) (N := ["_law_cells_here", "_law_stem", "_law_wide", "_law_things", "_law_folders", "_law_cell", "_law_over", "_law_way", "_law_mark"]) (sc := defScope sPaneBy) (by decide +kernel))
          (fun _ _ _ _ _ => pg_name (i := 7) sc_pane_by.nd rfl (Or.inl rfl)) (fun _ _ _ _ _ => pts_nil)
          (fun _ _ _ _ _ => pe_op (op_catK (K := K) rfl) (pe_tup (pa_cons (pv 7) pa_nil)) (pe_dget (hu_of hr) (pv 3) (pv 7) (fun _ _ => rfl)))))))))), ?_⟩
    -- wide, things, folders
    refine ⟨_, rfl, _, _, rfl, rfl, ⟨by decide, by decide⟩, _, _, rfl, rfl, (by show (0 : Int) < 7; decide), _, _, rfl, rfl, ?_⟩
    have hwide : (0 : Int) < 2 + st / 5 % 7 := by omega
    obtain ⟨wd, hwd⟩ : ∃ wd : Int, wd = 2 + st / 5 % 7 := ⟨_, rfl⟩
    rw [← hwd] at hwide
    intro d hd
    have s0 : Same H (upd H d (.dT [])) := same_new hd
    refine ⟨Nat.zero_le _, fun p0 hp0 => ⟨(by show 1 ≤ sizeLine; decide), fun r hr0' => ?_⟩⟩
    have s1 := same_new (o := .tup []) hp0
    have s2 := same_new (o := .lst [V.ref p0]) hr0'
    have s02 := s0.trans (s1.trans s2)
    have hr0 : H r = none := (s0.trans s1).free hr0'
    have S0 : StP H (upd (upd (upd H d (.dT [])) p0 (.tup [])) r (.lst [.ref p0])) d r [] [[]] := ⟨s02, (dict_new (R := ThV)).same mono_th (s1.trans s2), [.ref p0], upd_same, each_one ⟨p0, rfl, s2 _ _ upd_same⟩⟩
    generalize upd (upd (upd H d (.dT [])) p0 (.tup [])) r (.lst [.ref p0]) = H3 at S0 s02
    -- the root's own entry
    refine ⟨fun σ' H' => σ' = [some (.ref c), some (.int st), some (.int wd), some (.ref d), some (.ref r), none, none, none, none] ∧ ∃ es, StP H H' d r es [[]] ∧ PInv 1 es [[]], ?_, ?_⟩
    · refine ⟨_, rfl, c, _, rfl, .inl (SqL.of (s02 _ _ hC)), _, _, rfl, rfl, _, rfl, ?_⟩
      by_cases c0 : (2 : Int) < ((zs.map V.int).length : Int)
      · rw [decide_eq_true c0]
        have hz0 : 0 < zs.length := by rw [List.length_map] at c0; omega
        refine iteT ⟨_, rfl, c, _, _, .int zs[0], rfl, rfl, SqL.of (s02 _ _ hC), at_of (j := 0) rfl (by rw [List.getElem?_map, List.getElem?_eq_getElem hz0]; rfl), _, _, _, rfl, (by show (0 : Int) < 6; decide), fun H4 z s4 _ _ => ?_⟩
        refine ⟨rfl, _, rfl, ?_⟩
        refine ite2 (fun _ => ?_) (fun _ => ?_)
        · refine ⟨(by show 2 ≤ sizeLine; decide), fun p1 hp1 => ⟨_, rfl, Nat.zero_le _, fun p2 hp2 => ?_⟩⟩
          have s5 := same_new (o := .tup [V.str (("shut" : String) : Str), .str (("" : String) : Str)]) hp1
          have s6 := same_new (o := .tup []) hp2
          obtain ⟨H7, g, S7, _⟩ := (S0.same (s4.trans (s5.trans s6))).put (b := p2) (w := []) (v := .ref p1) (t := (SHUT, "")) hd upd_same rfl ⟨p1, rfl, s6 _ _ upd_same⟩ (by simp)
          exact ⟨d, H7, rfl, g, by rw [hwd]; rfl, _, S7, pinv_1 _⟩
        · exact ⟨by rw [hwd]; rfl, _, S0.same s4, pinv_0⟩
      · rw [decide_eq_false c0]
        exact iteF (iteF ⟨by rw [hwd]; rfl, _, S0, pinv_0⟩)
    · rintro σ4 H4 ⟨rfl, es0, S4, I4⟩
      -- for cell in cells
      refine ⟨_, rfl, c, rfl, ⟨_, SqL.of (S4.1 _ _ hC)⟩, for_list (K := K) (a := c) (xs := zs.map V.int) (fun i σ H' => ∃ (v5 v6 v7 v8 : Option V) (es : List Ent) (fs : List Way), σ = [some (.ref c), some (.int st), some (.int wd), some (.ref d), some (.ref r), v5, v6, v7, v8] ∧ StP H H' d r es fs ∧ PInv (i + 1) es fs)
        ⟨none, none, none, none, es0, [[]], rfl, S4, I4⟩ (fun i σ H' _ ⟨_, _, _, _, _, _, _, z, _⟩ => SqL.of (z.1 _ _ hC)) ?_ ?_⟩
      · rintro i y σ H5 hi ⟨v5, v6, v7, v8, es, fs, rfl, S5, I5⟩
        have hi4 : i < 4 := by
          have := (List.getElem?_eq_some_iff.mp hi).1
          rw [List.length_map] at this
          omega
        obtain ⟨cz, rfl⟩ : ∃ z : Int, y = .int z := by
          rw [List.getElem?_map] at hi
          cases e : zs[i]? with
          | none => rw [e] at hi; cases hi
          | some z => rw [e] at hi; exact ⟨z, (Option.some.inj hi).symm⟩
        obtain ⟨rs, hR, hE⟩ := S5.2.2
        have hfl : 0 < fs.length := List.length_pos_iff.mpr I5.ne
        have hrl : rs.length = fs.length := hE.length
        -- over = folders[..]
        refine ⟨_, rfl, _, rfl, _, rfl, r, _, rfl, .inl (SqL.of hR), ?_⟩
        refine ⟨_, _, _, rfl, (by show (0 : Int) < (rs.length : Int); omega), fun H6 z6 s6 h60 h61 => ?_⟩
        have S6 := S5.same s6
        have hR6 := s6 _ _ hR
        have hE6 : EachIs (WV H6) rs fs := hE.mono fun _ _ z => z.tst (tst_of s6)
        obtain ⟨o6, f6, a6, m6, w6⟩ := each_at hE6 h60 h61
        refine ⟨r, rs, _, o6, rfl, rfl, SqL.of hR6, a6, ?_⟩
        -- perhaps the last folder
        refine ⟨fun σ' H' => ∃ (o : V) (f : Way), σ' = [some (.ref c), some (.int st), some (.int wd), some (.ref d), some (.ref r), some (.int cz), some o, v7, v8] ∧ StP H H' d r es fs ∧ WV H' o f ∧ f ∈ fs, ?_, ?_⟩
        · refine ⟨_, rfl, _, _, _, rfl, (by show (0 : Int) < 3; decide), fun H7 z7 s7 _ _ => ?_⟩
          refine ⟨rfl, _, rfl, ?_⟩
          refine ite2 (fun _ => ?_) (fun _ => ?_)
          · have hE7 : EachIs (WV H7) rs fs := hE6.mono fun _ _ z => z.tst (tst_of s7)
            obtain ⟨o7, f7, a7, m7, w7⟩ := last_at hE7 (by omega)
            exact ⟨_, rfl, _, rfl, r, rs, _, o7, rfl, rfl, SqL.of (s7 _ _ hR6), a7, o7, f7, rfl, S6.same s7, w7, m7⟩
          · exact ⟨o6, f6, rfl, S6.same s7, w6.tst (tst_of s7), m6⟩
        · rintro σ7 H7 ⟨o7, f7, rfl, S7, w7, m7⟩
          -- way = over + (name,)
          refine ⟨fun σ' H' => ∃ (b : Addr) (f : Way) (x : Str), σ' = [some (.ref c), some (.int st), some (.int wd), some (.ref d), some (.ref r), some (.int cz), some o7, some (.ref b), v8] ∧ StP H H' d r es fs ∧ WayAt H' b (f ++ [x]) ∧ f ∈ fs, ?_, ?_⟩
          · obtain ⟨ao, rfl, hao⟩ := w7
            have hf14 : f7.length ≤ 14 := by
              rcases I5.fold f7 m7 with z | ⟨t, e, _⟩
              · rw [z]; exact Nat.zero_le _
              · exact I5.short _ (look_mem e)
            refine ⟨_, rfl, _, rfl, _, rfl, _, rfl, _, _, _, rfl, hwide, fun H8 z8 s8 _ _ => ?_⟩
            refine ⟨_, _, rfl, hst, fun x hx => ?_⟩
            refine ⟨(by show 1 ≤ sizeLine; decide), fun p hp => ?_⟩
            have s9 := same_new (o := .tup [V.str x]) hp
            have S9 := S7.same (s8.trans s9)
            refine ⟨ao, p, _, _, rfl, rfl, SqT.of ((s8.trans s9) _ _ hao), SqT.of upd_same, ?_, fun h0 => ?_, fun _ z => (by cases z), fun h1 h2 q hq => ?_⟩
            · rw [List.length_map]; exact str_line (by show f7.length + 1 ≤ 1000; omega)
            · have hf0 : f7 = [] := by
                cases f7 with
                | nil => rfl
                | cons u us => cases h0
              refine ⟨p, f7, x, rfl, S9, ?_, m7⟩
              rw [hf0]
              exact upd_same
            · have s10 := same_new (o := .tup (f7.map V.str ++ [V.str x])) hq
              refine ⟨q, f7, x, rfl, S9.same s10, ?_, m7⟩
              unfold WayAt
              rw [upd_same, List.map_append]
              rfl
          · rintro σ8 H8 ⟨b, f, x, rfl, S8, hb, mf⟩
            -- if way not in things and len(way) < 15
            cases hq : look es (f ++ [x]) with
            | some t0 =>
              obtain ⟨u, g, _⟩ := S8.2.1.some_ hb hq
              exact ⟨_, rfl, _, rfl, d, _, rfl, g, _, rfl, iteF (iteF ⟨_, _, _, _, es, fs, rfl, S8, I5.mono (Nat.le_succ _)⟩)⟩
            | none =>
              refine ⟨_, rfl, _, rfl, d, _, rfl, S8.2.1.none_ hb hq, _, rfl, iteT ?_⟩
              refine ⟨_, rfl, b, _, rfl, .inr (SqT.of hb), _, _, rfl, rfl, _, rfl, ?_⟩
              by_cases c15 : (((f ++ [x]).map V.str).length : Int) < 15
              · rw [decide_eq_true c15]
                have hl14 : (f ++ [x]).length ≤ 14 := by rw [List.length_map] at c15; omega
                refine iteT ?_
                -- mark
                refine ⟨(by show 7 ≤ sizeLine; decide), fun p1 hp1 => ?_⟩
                have s9 := same_new (o := .tup [V.str (("folder" : String) : Str), .str (("shut" : String) : Str), .str (("file" : String) : Str), .str (("folder" : String) : Str), .str (("gone" : String) : Str), .str (("link" : String) : Str), .str (("folder" : String) : Str)]) hp1
                refine ⟨_, rfl, _, _, _, rfl, (by show (0 : Int) < 7; decide), fun H10 z10 s10 h0 h1 => ?_⟩
                obtain ⟨m0, em0⟩ := strs_at [(("folder" : String) : Str), (("shut" : String) : Str), (("file" : String) : Str), (("folder" : String) : Str), (("gone" : String) : Str), (("link" : String) : Str), (("folder" : String) : Str)] h0 h1
                refine ⟨p1, _, _, _, rfl, rfl, SqT.of (s10 _ _ upd_same), em0, ?_⟩
                have S10 := S8.same (s9.trans s10)
                have hb10 := s10 _ _ (s9 _ _ hb)
                refine ⟨fun σ' H' => ∃ m : Str, σ' = [some (.ref c), some (.int st), some (.int wd), some (.ref d), some (.ref r), some (.int cz), some o7, some (.ref b), some (.str m)] ∧ StP H H' d r es fs ∧ WayAt H' b (f ++ [x]), ?_, ?_⟩
                · refine ⟨_, rfl, _, rfl, d, es, .ref b, _, rfl, S10.2.1, ⟨b, rfl, hb10⟩, by omega, fun H11 bb s11 => ?_⟩
                  refine ⟨_, rfl, ?_⟩
                  refine ite2 (fun _ => ?_) (fun _ => ?_)
                  · refine ⟨_, rfl, (by show 2 ≤ sizeLine; decide), fun p2 hp2 => ?_⟩
                    have s12 := same_new (o := .tup [V.str (("gone" : String) : Str), .str (("shut" : String) : Str)]) hp2
                    refine ⟨p2, _, rfl, .inr (SqT.of upd_same), rfl, rfl, _, rfl, ?_⟩
                    refine ite2 (fun _ => ?_) (fun _ => ?_)
                    · exact ⟨_, rfl, S10.same (s11.trans s12), s12 _ _ (s11 _ _ hb10)⟩
                    · exact ⟨m0, rfl, S10.same (s11.trans s12), s12 _ _ (s11 _ _ hb10)⟩
                  · exact iteF ⟨m0, rfl, S10.same s11, s11 _ _ hb10⟩
                · rintro σ11 H11 ⟨m, rfl, S11, hb11⟩
                  -- things[way] = (mark, text)
                  refine ⟨_, rfl, _, rfl, _, rfl, _, rfl, _, rfl, ?_⟩
                  refine ⟨m, cz, st, wd, rfl, hst, hwide, fun H12 tx s12 => ?_⟩
                  refine ⟨(by show 2 ≤ sizeLine; decide), fun p3 hp3 => ?_⟩
                  have s13 := same_new (o := .tup [V.str m, .str tx]) hp3
                  have hb13 := s13 _ _ (s12 _ _ hb11)
                  obtain ⟨H14, g14, S14, t14⟩ := (S11.same (s12.trans s13)).put (b := b) (w := f ++ [x]) (v := .ref p3) (t := (m, tx)) hd hb13 hq ⟨p3, rfl, upd_same⟩ (by have := I5.few; omega)
                  obtain ⟨I14, I15⟩ := I5.add mf hq hl14 (m, tx)
                  refine ⟨_, rfl, _, rfl, d, H14, rfl, g14, ?_⟩
                  have hb14 : WayAt H14 b (f ++ [x]) := t14 _ _ hb13
                  -- a folder's
                  refine ⟨_, rfl, (by show 2 ≤ sizeLine; decide), fun p4 hp4 => ?_⟩
                  have s15 := same_new (o := .tup [V.str (("folder" : String) : Str), .str (("shut" : String) : Str)]) hp4
                  refine ⟨p4, _, rfl, .inr (SqT.of upd_same), rfl, rfl, _, rfl, ?_⟩
                  have ej := inV_joins m
                  have S15 := S14.same s15
                  cases qj : joinsM m with
                  | true =>
                    rw [qj] at ej
                    show if inV (V.str m) [V.str FOLDER, V.str SHUT] = true then _ else _
                    rw [ej]
                    obtain ⟨h1, h2, rs2, h3, h4⟩ := S15
                    refine iteT ⟨_, rfl, .inl ⟨rfl, _, SqL.of h3⟩, _, rfl, r, rs2, _, rfl, rfl, h3, ?_, ?_⟩
                    · have := I5.fl
                      rw [h4.length]
                      exact line_big (by omega)
                    · exact ⟨_, _, _, _, _, _, rfl, StP.app h1 h2 h3 h4 hr0 ⟨b, rfl, s15 _ _ hb14⟩, I15 qj⟩
                  | false =>
                    rw [qj] at ej
                    show if inV (V.str m) [V.str FOLDER, V.str SHUT] = true then _ else _
                    rw [ej]
                    exact iteF ⟨_, _, _, _, _, _, rfl, S15, I14⟩
              · rw [decide_eq_false c15]
                exact iteF ⟨_, _, _, _, es, fs, rfl, S8, I5.mono (Nat.le_succ _)⟩
      · rintro σ H5 ⟨v5, v6, v7, v8, es, fs, rfl, S5, I5⟩
        have I6 : PInv 5 es fs := I5.mono (by rw [List.length_map]; omega)
        -- the entries in the order of their ways
        obtain ⟨kvs, ek, qk⟩ := S5.2.1.keys
        refine ⟨_, rfl, d, kvs, rfl, Rd.of ek, fun p1 bs hp1 hk => ?_⟩
        have w1 := qk bs hk
        have s6 := same_new (o := .lst (bs.map V.ref)) hp1
        refine ⟨p1, _, _, rfl, SqL.of upd_same, w1.mono fun _ _ z => z.tst (tst_of s6), fun ys p2 hy hp2 => ?_⟩
        have s7 := same_new (o := .lst ys) hp2
        have S7 := S5.same (s6.trans s7)
        have hys : upd (upd H5 p1 (.lst (bs.map V.ref))) p2 (.lst ys) p2 = some (.lst ys) := upd_same
        have hy' : EachIs (WV (upd (upd H5 p1 (.lst (bs.map V.ref))) p2 (.lst ys))) ys ((es.map (·.1)).mergeSort wle) := EachIs.mono (fun _ _ z => z.tst (tst_of s7)) hy
        generalize upd (upd H5 p1 (.lst (bs.map V.ref))) p2 (.lst ys) = H7 at S7 hys hy'
        refine ⟨p2, rfl, ⟨_, SqL.of hys⟩, fun D hD => ?_⟩
        refine lc_list (K := K) (a := p2) (xs := ys) (fun i H' => ∃ ws : List V, Same H7 H' ∧ H' D = some (.lst ws) ∧ EachIs (EntV H') ws ((orderM es).take i)) ⟨[], same_new hD, upd_same, .nil⟩ (fun i H' _ ⟨_, s, _⟩ => SqL.of (s _ _ hys)) ?_ ?_
        · rintro i y H8 hi ⟨ws, s8, hW, hE⟩
          obtain ⟨wy, hwy, hwv⟩ := each_get hy' hi
          obtain ⟨b, rfl, hb⟩ := hwv.tst (tst_of s8)
          have hmem : ∃ e ∈ es, e.1 = wy := by
            have := List.mem_of_getElem? hwy
            rw [(List.mergeSort_perm _ wle).mem_iff] at this
            obtain ⟨e, he, q⟩ := List.mem_map.mp this
            exact ⟨e, he, q⟩
          obtain ⟨e, he, rfl⟩ := hmem
          have hlk := look_of I6.nd he
          refine ⟨rfl, yes_if ?_⟩
          refine ⟨_, rfl, (by show 1 ≤ sizeLine; decide), fun p3 hp3 => ?_⟩
          have s9 := same_new (o := .tup [V.ref b]) hp3
          obtain ⟨u, g, a, rfl, ha⟩ := (S7.2.1.same mono_th (s8.trans s9)).some_ (s9 _ _ hb) hlk
          refine ⟨_, rfl, _, rfl, d, _, rfl, g, ?_⟩
          refine ⟨p3, a, _, _, rfl, rfl, SqT.of upd_same, SqT.of ha, (by show 3 ≤ sizeLine; decide), fun z => (by cases z), fun _ z => (by cases z), fun _ _ p4 hp4 => ?_⟩
          have s10 := same_new (o := .tup ([V.ref b] ++ [V.str e.2.1, V.str e.2.2])) hp4
          have hW10 := s10 _ _ (s9 _ _ hW)
          have hwl : ws.length ≤ 1000 := by
            rw [hE.length, List.length_take, order_length]
            have := I6.few
            omega
          refine ⟨ws, hW10, line_big (by omega), ws ++ [.ref p4], same_upd (s8.trans (s9.trans s10)) hD, upd_same, ?_⟩
          have t10 : Tst (upd (upd H8 p3 (.tup [V.ref b])) p4 (.tup ([V.ref b] ++ [V.str e.2.1, V.str e.2.2]))) _ := tst_lst (o := .lst (ws ++ [.ref p4])) hW10
          have hoi : (orderM es)[i]? = some e := by
            unfold orderM
            rw [List.getElem?_map, hwy]
            show some (entM es e.1) = some e
            unfold entM
            rw [hlk]
            rfl
          rw [List.take_succ, hoi]
          exact each_app (ents_tst hE ((tst_of (s9.trans s10)).trans t10)) (each_one ⟨p4, b, rfl, t10 _ _ upd_same, t10 _ _ (s10 _ _ (s9 _ _ hb))⟩)
        · rintro H8 ⟨ws, s8, hW, hE⟩
          have hyl : ys.length = (orderM es).length := by
            rw [hy'.length, ← order_ways, List.length_map]
          rw [hyl, List.take_length] at hE
          exact k _ D (orderM es) (S7.1.trans s8) (S7.1.free hD) ⟨D, ws, rfl, hW, hE⟩ I6.ok
end
end GL

/-! G10: the law's own laid and seen. -/
namespace GL
open PySem PySem.Spec PyProof.Rows L2
open PySem.W (EachIs)
open C8 (pss_cut tCut)
theorem look_map {T U : Type} (g : T → U) (es : List (Way × T)) (w : Way) : look (es.map fun e => (e.1, g e.2)) w = (look es w).map g := by
  induction es with
  | nil => rfl
  | cons e es ih =>
    rw [List.map_cons, look_cons, look_cons, ih]
    by_cases q : e.1 = w
    · rw [if_pos q, if_pos q]; rfl
    · rw [if_neg q, if_neg q]
theorem look_take {T : Type} {es : List (Way × T)} (nd : (es.map (·.1)).Nodup) {i : Nat} {e : Way × T} (he : es[i]? = some e) : look (es.take i) e.1 = none := by
  rw [look_none]
  intro f hf q
  obtain ⟨j, hj, ej⟩ := List.getElem_of_mem hf
  rw [List.length_take] at hj
  have hji : j < i := by omega
  have hjl : j < es.length := by omega
  rw [List.getElem_take] at ej
  have h1 : (es.map (·.1))[j]? = some e.1 := by rw [List.getElem?_map, List.getElem?_eq_getElem hjl, ej, Option.map_some, q]
  have h2 : (es.map (·.1))[i]? = some e.1 := by rw [List.getElem?_map, he, Option.map_some]
  have := nd_ix nd h1 h2
  omega
theorem look_sub {T : Type} {es fs : List (Way × T)} {w : Way} (h : look es w = none) (s : ∀ f ∈ fs, f ∈ es) : look fs w = none := look_none.mpr fun f hf => look_none.mp h f (s f hf)
theorem look_rows {A t : List Ent} (nd : (A.map (·.1)).Nodup) {i : Nat} {e : Ent} (he : A[i]? = some e) : look (t.filter (keptM A) ++ (A.take i).filterMap shownM) e.1 = none := by
  rw [look_none]
  intro f hf q
  rcases List.mem_append.mp hf with hf | hf
  · have k := (List.mem_filter.mp hf).2
    unfold keptM at k
    rw [Bool.and_eq_true] at k
    have kn : look A f.1 = none := by simpa using k.1
    exact look_none.mp kn e (List.mem_of_getElem? he) q.symm
  · obtain ⟨g, hg, eg⟩ := List.mem_filterMap.mp hf
    rw [shown_way eg] at q
    exact look_none.mp (look_take nd he) g hg q
theorem order_sort {es : List Ent} (nd : (es.map (·.1)).Nodup) : orderM es = es.mergeSort ewle := by
  rw [sort_same nd (order_nd nd) fun e => (order_mem nd e).symm]
  refine (List.mergeSort_of_pairwise ?_).symm
  unfold orderM
  rw [List.pairwise_map]
  exact PySem.W.sort_pairwise wle_total _
def mkM (A : List Ent) : List (Way × Str) := A.map fun e => (e.1, e.2.1)
/-- whether another mark than folder stands above w, at less than i -/
def covN (A : List Ent) (w : Way) (i : Nat) : Bool := (List.range i).any fun k => match look A (w.take k) with
  | some t => !decide (t.1 = FOLDER)
  | none => false
theorem cov_all (A : List Ent) (w : Way) : covN A w w.length = covM A w := rfl
theorem covN_succ (A : List Ent) (w : Way) (i : Nat) : covN A w (i + 1) = (covN A w i || (match look A (w.take i) with
  | some t => !decide (t.1 = FOLDER)
  | none => false)) := by
  unfold covN
  rw [List.range_succ, List.any_append, List.any_cons, List.any_nil, Bool.or_false]
section
variable {P : Program} {w : World} {K : PySem.W.Frag} {mg : Str → Option Value} {base : Heap}
theorem sc_llaid : FnScope ["_law_pane", "_law_tree", "_law_marks", "_law_row", "_law_shown", "_law_kept", "_law_k", "_law_way"] ["_law_pane", "_law_tree"] (defScope sLLaid) := ⟨rfl, rfl, rfl, by decide +kernel, rfl, by decide +kernel, by decide +kernel⟩
theorem ok_llaid {f : Addr} {fd : FuncData} (F : Fun K "_law_laid" "_law_laid" sLLaid f fd) (T : Txt mg) : FnOk P w K mg base CX0 1 f fd ["_law_pane", "_law_tree"] spLaid := by
  refine F.ok sc_llaid (fun vs H Q E h => ?_) (fun cdv A outer s H vs Q E hr h => ?_)
  · obtain ⟨v1, v2, A, t, rfl, _⟩ := h
    rfl
  · obtain ⟨v1, v2, A, t, rfl, hA, ht, oA, nt, st, lt, k⟩ := h
    obtain ⟨l1, rs1, rfl, hL1, hE1⟩ := hA
    obtain ⟨l2, rs2, rfl, hL2, hE2⟩ := ht
    refine ⟨_, pss_cons (ps_set (i := 2) sc_llaid.nd rfl (Or.inl rfl) pe_dnewT)
      (pss_cons (ps_for PassesOwn.never rfl (pi_list (pv 0)) (pg_name (i := 3) sc_llaid.nd rfl (Or.inl rfl))
        (pss_one (ps_dput (hu_of hr) (pv 2) (pe_ix ix_tup (pv 3) pe_int (fun _ _ => rfl)) (pe_ix ix_tup (pv 3) pe_int (fun _ _ => rfl)) rfl)))
      (pss_cons (ps_set (i := 4) sc_llaid.nd rfl (Or.inr rfl) pe_dnewT)
      (pss_cons (ps_for PassesOwn.never rfl (pi_list (pv 1)) (pg_name (i := 3) sc_llaid.nd rfl (Or.inl rfl))
        (pss_cons (ps_set (i := 5) sc_llaid.nd rfl (Or.inl rfl) (pe_cmp (pc_dnotin (hu_of hr) (pe_ix ix_tup (pv 3) pe_int (fun _ _ => rfl)) (pv 2)) (by rfl)))
        (pss_cons (ps_for PassesOwn.never rfl (pi_range1 rfl T.range (pa_cons (pe_callB call_len_seq (by rfl) T.len PySem.boot_len (pa_cons (pe_ix ix_tup (pv 3) pe_int (fun _ _ => rfl)) pa_nil)) pa_nil)) (pg_name (i := 6) sc_llaid.nd rfl (Or.inl rfl))
          (pss_one (ps_if (PW.pt (pw_and (pt_cmp (pc_din (hu_of hr) (pe_slice sl_tupA (pe_ix ix_tup (pv 3) pe_int (fun _ _ => rfl)) po_none (po_some (pv 6))) (pv 2)) (by rfl))
              (pw_and1 (pt_cmpR op_ne (pe_dget (hu_of hr) (pv 2) (pe_slice sl_tupA (pe_ix ix_tup (pv 3) pe_int (fun _ _ => rfl)) po_none (po_some (pv 6))) (fun _ _ => rfl)) pe_str (nomark _)))))
            (pss_one (ps_set (i := 5) sc_llaid.nd rfl (Or.inl rfl) pe_bl)) pss_nil)))
        (pss_one (ps_if (pt_val (pv 5))
          (pss_one (ps_dput (hu_of hr) (pv 4) (pe_ix ix_tup (pv 3) pe_int (fun _ _ => rfl)) (pe_tup (pa_cons (pe_ix ix_tup (pv 3) pe_int (fun _ _ => rfl)) (pa_cons (pe_ix ix_tup (pv 3) pe_int (fun _ _ => rfl)) pa_nil))) rfl)) pss_nil)))))
      (pss_cons (ps_for PassesOwn.never rfl (pi_list (pv 0)) (pg_name (i := 3) sc_llaid.nd rfl (Or.inl rfl))
        (pss_one (ps_if (PW.pt (pw_or (pt_cmpR op_eq (pe_ix ix_tup (pv 3) pe_int (fun _ _ => rfl)) pe_str (nomark _)) (pw_or1 (pt_cmpR op_eq (pe_ix ix_tup (pv 3) pe_int (fun _ _ => rfl)) pe_str (nomark _)))))
          (pss_one (ps_dput (hu_of hr) (pv 4) (pe_ix ix_tup (pv 3) pe_int (fun _ _ => rfl)) (pe_tup (pa_cons (pe_ix ix_tup (pv 3) pe_int (fun _ _ => rfl)) (pa_cons (pe_ix ix_tup (pv 3) pe_int (fun _ _ => rfl)) pa_nil))) rfl))
          (pss_one (ps_if (PW.pt (pw_and (pt_cmpR op_ne (pe_ix ix_tup (pv 3) pe_int (fun _ _ => rfl)) pe_str (nomark _)) (pw_and1 (pt_cmpR (op_neA hr.units) (pe_ix ix_tup (pv 3) pe_int (fun _ _ => rfl)) (pe_tup pa_nil) (nomark _)))))
            (pss_one (ps_dput (hu_of hr) (pv 4) (pe_ix ix_tup (pv 3) pe_int (fun _ _ => rfl)) (pe_tup (pa_cons pe_str (pa_cons pe_str pa_nil))) rfl)) pss_nil)))))
      (pss_one (ps_ret (pe_lc (own := [("_law_way", 7)]) (g := gName 7) (tt := tYes) (by rfl) sc_llaid.nd (pi_list (pe_callB (call_sortG (R := WV) (enc := wD) (fun _ _ _ z => z.dp) alike_w (fun _ => ⟨_, rfl⟩) (fun e => by rw [depth_w]; decide) hr.units) (by rfl) T.sorted (by decide +kernel) (pa_cons (pe_callTy (call_list_dT rfl) (by rfl) T.list (by decide +kernel) (pa_cons (pv 4) pa_nil)) pa_nil)))
          (blkOk_by (own := [("_law_way", 7)]) (N := ["_law_pane", "_law_tree", "_law_marks", "_law_row", "_law_shown", "_law_kept", "_law_k", "_law_way"]) (sc := defScope sLLaid) (by decide +kernel))
          (fun _ _ _ _ _ => pg_name (i := 7) sc_llaid.nd rfl (Or.inl rfl)) (fun _ _ _ _ _ => pts_nil)
          (fun _ _ _ _ _ => pe_op (op_catK (K := K) rfl) (pe_tup (pa_cons (pv 7) pa_nil)) (pe_dget (hu_of hr) (pv 4) (pv 7) (fun _ _ => rfl)))))))))), ?_⟩
    intro m hm
    have s0 : Same H (upd H m (.dT [])) := same_new hm
    -- marks
    refine ⟨_, rfl, l1, rfl, ⟨_, SqL.of (s0 _ _ hL1)⟩, for_list (K := K) (a := l1) (xs := rs1) (fun i σ H' => ∃ v : Option V, σ = [some (.ref l1), some (.ref l2), some (.ref m), v, none, none, none, none] ∧ Same H H' ∧ DictR MkV H' m ((mkM A).take i))
      ⟨none, rfl, s0, dict_new⟩ (fun i σ H' _ ⟨_, _, s1, _⟩ => SqL.of (s1 _ _ hL1)) ?_ ?_⟩
    · rintro i x σ H1 hi ⟨v, rfl, s1, D⟩
      obtain ⟨e, he, hx⟩ := each_get hE1 hi
      obtain ⟨a, b, rfl, ha, hb⟩ := hx.tst (tst_of s1)
      have he2 : (mkM A)[i]? = some (e.1, e.2.1) := by unfold mkM; rw [List.getElem?_map, he]; rfl
      have nd2 : ((mkM A).map (·.1)).Nodup := by unfold mkM; rw [List.map_map]; exact oA.nd
      have ln : look ((mkM A).take i) e.1 = none := look_take (e := (e.1, e.2.1)) nd2 he2
      refine ⟨_, rfl, a, _, _, _, rfl, rfl, SqT.of ha, rfl, _, rfl, _, rfl, a, _, _, _, rfl, rfl, SqT.of ha, rfl, ?_⟩
      obtain ⟨o, g, D', _⟩ := D.put mono_mk hb ln (t := e.2.1) (v := .str e.2.1) rfl (line_big (by
        have h1 := oA.few
        have h2 : (mkM A).length = A.length := by unfold mkM; rw [List.length_map]
        rw [List.length_take]; omega))
      refine ⟨m, _, rfl, g, some (.ref a), rfl, same_upd s1 hm, ?_⟩
      rw [List.take_succ, he2]
      exact D'
    · rintro σ H1 ⟨v, rfl, s1, DM⟩
      have lm : (mkM A).length = A.length := by unfold mkM; rw [List.length_map]
      rw [hE1.length, ← lm, List.take_length] at DM
      -- shown = {}
      intro d hd1
      have hd0 : H d = none := s1.free hd1
      have s2 : Same H (upd H1 d (.dT [])) := s1.trans (same_new hd1)
      refine ⟨_, rfl, l2, rfl, ⟨_, SqL.of (s2 _ _ hL2)⟩, for_list (K := K) (a := l2) (xs := rs2) (fun i σ H' => ∃ v3 v5 v6 : Option V, σ = [some (.ref l1), some (.ref l2), some (.ref m), v3, some (.ref d), v5, v6, none] ∧ Same H H' ∧ DictR MkV H' m (mkM A) ∧ DictR ThV H' d ((t.take i).filter (keptM A)))
        ⟨v, none, none, rfl, s2, DM.same mono_mk (same_new hd1), dict_new⟩ (fun i σ H' _ ⟨_, _, _, _, s3, _⟩ => SqL.of (s3 _ _ hL2)) ?_ ?_⟩
      · rintro i x σ H2 hi ⟨v3, v5, v6, rfl, s3, DM2, D2⟩
        obtain ⟨e, he, hx⟩ := each_get hE2 hi
        obtain ⟨a, b, rfl, ha, hb⟩ := hx.tst (tst_of s3)
        have hw100 := st e (List.mem_of_getElem? he)
        obtain ⟨o, g, ho⟩ := DM2.in_ hb
        have ho2 : o.isSome = (look A e.1).isSome := by
          rw [ho]; unfold mkM; rw [look_map]; cases look A e.1 <;> rfl
        refine ⟨_, rfl, a, _, _, _, rfl, rfl, SqT.of ha, rfl, _, rfl, m, _, rfl, g, ?_⟩
        rw [ho2]
        -- for k in range(len(row[0]))
        have hlen : (e.1.map V.str).length = e.1.length := List.length_map ..
        refine ⟨_, rfl, a, _, _, _, rfl, rfl, SqT.of ha, rfl, b, _, rfl, .inr (SqT.of hb), _, rfl, (len_small (by rw [hlen]; omega)).1, (len_small (by rw [hlen]; omega)).2, ?_⟩
        refine for_range (lo := 0) (n := ((e.1.map V.str).length : Int).toNat) (fun j σ H' => ∃ v6 : Option V, σ = [some (.ref l1), some (.ref l2), some (.ref m), some (.ref a), some (.ref d), some (.bl (!(look A e.1).isSome && !covN A e.1 j)), v6, none] ∧ Same H2 H')
          ⟨v6, by rw [show covN A e.1 0 = false from rfl, Bool.not_false, Bool.and_true]; rfl, Same.refl _⟩ ?_ ?_
        · rintro j σ H3 hj ⟨v6, rfl, s4⟩
          have hj' : j < e.1.length := by rw [Int.toNat_natCast, hlen] at hj; exact hj
          have hz : (0 : Int) + (j : Nat) = (j : Int) := Int.zero_add _
          have ha3 := s4 _ _ ha
          have hb3 := s4 _ _ hb
          refine ⟨_, rfl, a, _, _, _, rfl, rfl, SqT.of ha3, rfl, _, rfl, _, rfl, b, _, rfl, SqT.of hb3, fun q => absurd q (cut_lt hz (by rw [hlen]; exact hj')), fun _ p hp => ?_⟩
          have s5 := same_new (o := .tup (cutV (e.1.map V.str) none (some ((0 : Int) + (j : Nat))))) hp
          have hw := way_cut (H := H3) (p := p) hz hj'
          have DM3 := (DM2.same mono_mk s4).same mono_mk s5
          have lk : look (mkM A) (e.1.take j) = (look A (e.1.take j)).map (·.1) := look_map (fun t : Thing => t.1) A _
          cases q : look A (e.1.take j) with
          | none =>
            rw [q] at lk
            refine ⟨_, rfl, m, _, rfl, DM3.none_ hw lk, _, rfl, iteF (iteF ⟨some (.int ((0 : Int) + (j : Nat))), ?_, s4.trans s5⟩)⟩
            rw [covN_succ, q, Bool.or_false]
            rfl
          | some th =>
            rw [q] at lk
            obtain ⟨u, g3, hu⟩ := DM3.some_ hw lk
            refine ⟨_, rfl, m, _, rfl, g3, _, rfl, iteT ?_⟩
            have hb5 := s5 _ _ hb3
            have ha5 := s5 _ _ ha3
            refine ⟨_, rfl, _, rfl, a, _, _, _, rfl, rfl, SqT.of ha5, rfl, _, rfl, _, rfl, b, _, rfl, SqT.of hb5, fun q => absurd q (cut_lt hz (by rw [hlen]; exact hj')), fun _ p2 hp2 => ?_⟩
            have s6 := same_new (o := .tup (cutV (e.1.map V.str) none (some ((0 : Int) + (j : Nat))))) hp2
            have hw2 := way_cut (H := (upd H3 p (.tup (cutV (e.1.map V.str) none (some ((0 : Int) + (j : Nat))))))) (p := p2) hz hj'
            obtain ⟨u2, g4, hu2⟩ := (DM3.same mono_mk s6).some_ hw2 lk
            have eu : u2 = .str th.1 := hu2
            subst eu
            refine ⟨m, _, rfl, g4, rfl, _, rfl, ?_⟩
            have s46 := s4.trans (s5.trans s6)
            by_cases c : th.1 = FOLDER
            · rw [c, decide_eq_true rfl]
              refine iteF ⟨some (.int ((0 : Int) + (j : Nat))), ?_, s46⟩
              rw [covN_succ, q]
              dsimp only
              rw [c, decide_eq_true rfl, Bool.not_true, Bool.or_false]
              rfl
            · rw [decide_eq_false (str_ne c)]
              refine iteT ⟨some (.int ((0 : Int) + (j : Nat))), ?_, s46⟩
              rw [covN_succ, q]
              dsimp only
              rw [decide_eq_false c, Bool.not_false, Bool.or_true, Bool.not_true, Bool.and_false]
              rfl
        · rintro σ H3 ⟨v6', rfl, s4⟩
          rw [Int.toNat_natCast, hlen, cov_all]
          have kk : (!(look A e.1).isSome && !covM A e.1) = keptM A e := by
            unfold keptM
            cases look A e.1 <;> rfl
          rw [kk]
          refine ⟨_, rfl, _, rfl, ?_⟩
          have hfs := filt_succ (p := keptM A) he
          have s34 := s3.trans s4
          have DM3 := DM2.same mono_mk s4
          have D3 := D2.same mono_th s4
          cases qk : keptM A e with
          | false =>
            refine iteF ⟨_, _, _, rfl, s34, DM3, ?_⟩
            rw [hfs, qk, if_neg Bool.false_ne_true, List.append_nil]
            exact D3
          | true =>
            have ha3 := s4 _ _ ha
            have hb3 := s4 _ _ hb
            refine iteT ⟨_, rfl, a, _, _, _, rfl, rfl, SqT.of ha3, rfl, _, rfl, a, _, _, _, rfl, rfl, SqT.of ha3, rfl, (by show 2 ≤ sizeLine; decide), fun p hp => ?_⟩
            have s5 : Same H3 (upd H3 p (.tup [.str e.2.1, .str e.2.2])) := same_new hp
            refine ⟨_, rfl, _, rfl, a, _, _, _, rfl, rfl, SqT.of (s5 _ _ ha3), rfl, ?_⟩
            have ln : look ((t.take i).filter (keptM A)) e.1 = none := look_sub (look_take nt he) fun f hf => (List.mem_filter.mp hf).1
            obtain ⟨o', g', D', z⟩ := (D3.same mono_th s5).put mono_th (s5 _ _ hb3) ln (t := e.2) (v := .ref p) ⟨p, rfl, upd_same⟩ (line_big (by
              have h1 := List.length_filter_le (keptM A) (t.take i)
              rw [List.length_take] at h1
              omega))
            obtain ⟨kvs, hkv⟩ := D3.at_
            obtain ⟨kv2, hkv2⟩ := DM3.at_
            have nmd : m ≠ d := by
              rintro rfl
              exact absurd (s3.trans s4) (fun _ => by
                have := (s1 : Same H H1)
                obtain ⟨kv3, hkv3⟩ := DM.at_
                rw [hkv3] at hd1
                cases hd1)
            refine ⟨d, _, rfl, g', _, _, _, rfl, same_upd (s34.trans s5) hd0, (DM3.same mono_mk s5).mono mono_mk z (upd_ne nmd), ?_⟩
            rw [hfs, qk, if_pos rfl]
            exact D'
      · rintro σ H2 ⟨v3, v5, v6, rfl, s3, _, D2⟩
        rw [hE2.length, List.take_length] at D2
        -- for row in pane
        refine ⟨_, rfl, l1, rfl, ⟨_, SqL.of (s3 _ _ hL1)⟩, for_list (K := K) (a := l1) (xs := rs1) (fun i σ H' => ∃ v3 : Option V, σ = [some (.ref l1), some (.ref l2), some (.ref m), v3, some (.ref d), v5, v6, none] ∧ Same H H' ∧ DictR ThV H' d (t.filter (keptM A) ++ (A.take i).filterMap shownM))
          ⟨v3, rfl, s3, by rw [List.take_zero, List.filterMap_nil, List.append_nil]; exact D2⟩ (fun i σ H' _ ⟨_, _, s4, _⟩ => SqL.of (s4 _ _ hL1)) ?_ ?_⟩
        · rintro i x σ H3 hi ⟨v3, rfl, s4, D3⟩
          obtain ⟨e, he, hx⟩ := each_get hE1 hi
          obtain ⟨a, b, rfl, ha, hb⟩ := hx.tst (tst_of s4)
          have hfs := fmap_succ (f := shownM) he
          have ln := look_rows (t := t) oA.nd he
          have hll : (t.filter (keptM A) ++ (A.take i).filterMap shownM).length ≤ 100005 := by
            rw [List.length_append]
            have h1 := List.length_filter_le (keptM A) t
            have h2 := List.length_filterMap_le shownM (A.take i)
            have h3 : (A.take i).length ≤ A.length := by rw [List.length_take]; omega
            have h4 := oA.few
            omega
          have put1 : e.2.1 = FILE ∨ e.2.1 = LINK → ∀ p, H3 p = none → ∃ o', DPut (upd H3 p (.tup [.str e.2.1, .str e.2.2])) d (.ref b) (.ref p) (upd (upd H3 p (.tup [.str e.2.1, .str e.2.2])) d o') ∧ Same H (upd (upd H3 p (.tup [.str e.2.1, .str e.2.2])) d o') ∧ DictR ThV (upd (upd H3 p (.tup [.str e.2.1, .str e.2.2])) d o') d (t.filter (keptM A) ++ (A.take (i + 1)).filterMap shownM) := by
            intro c p hp
            have s5 : Same H3 (upd H3 p (.tup [.str e.2.1, .str e.2.2])) := same_new hp
            obtain ⟨o', g', D', z⟩ := (D3.same mono_th s5).put mono_th (s5 _ _ hb) ln (t := e.2) (v := .ref p) ⟨p, rfl, upd_same⟩ (line_big (by omega))
            refine ⟨o', g', same_upd (s4.trans s5) hd0, ?_⟩
            have es : shownM e = some e := by unfold shownM; rw [if_pos c]
            rw [hfs, es]
            dsimp only
            rw [← List.append_assoc]
            exact D'
          refine ⟨_, rfl, a, _, _, _, rfl, rfl, SqT.of ha, rfl, rfl, _, rfl, ?_⟩
          by_cases c1 : e.2.1 = FILE
          · have p1 := put1 (.inl c1)
            rw [c1, decide_eq_true rfl]
            rw [c1] at ha p1
            refine iteT (iteT ⟨_, rfl, a, _, _, _, rfl, rfl, SqT.of ha, rfl, _, rfl, a, _, _, _, rfl, rfl, SqT.of ha, rfl, (by show 2 ≤ sizeLine; decide), fun p hp => ?_⟩)
            obtain ⟨o', g', s', D'⟩ := p1 p hp
            exact ⟨_, rfl, _, rfl, a, _, _, _, rfl, rfl, SqT.of (same_new hp _ _ ha), rfl, d, _, rfl, g', _, rfl, s', D'⟩
          rw [decide_eq_false (str_ne c1)]
          refine iteF ⟨_, rfl, a, _, _, _, rfl, rfl, SqT.of ha, rfl, rfl, _, rfl, ?_⟩
          by_cases c2 : e.2.1 = LINK
          · have p1 := put1 (.inr c2)
            rw [c2, decide_eq_true rfl]
            rw [c2] at ha p1
            refine iteT ⟨_, rfl, a, _, _, _, rfl, rfl, SqT.of ha, rfl, _, rfl, a, _, _, _, rfl, rfl, SqT.of ha, rfl, (by show 2 ≤ sizeLine; decide), fun p hp => ?_⟩
            obtain ⟨o', g', s', D'⟩ := p1 p hp
            exact ⟨_, rfl, _, rfl, a, _, _, _, rfl, rfl, SqT.of (same_new hp _ _ ha), rfl, d, _, rfl, g', _, rfl, s', D'⟩
          rw [decide_eq_false (str_ne c2)]
          have c12 : ¬ (e.2.1 = FILE ∨ e.2.1 = LINK) := by rintro (z | z); exact c1 z; exact c2 z
          refine iteF ⟨_, rfl, a, _, _, _, rfl, rfl, SqT.of ha, rfl, rfl, _, rfl, ?_⟩
          by_cases c3 : e.2.1 = GONE
          · rw [c3, decide_eq_true rfl]
            refine iteF (iteF ⟨_, rfl, s4, ?_⟩)
            have es : shownM e = none := by unfold shownM; rw [if_neg c12, if_pos (.inl c3)]
            rw [hfs, es, List.append_nil]
            exact D3
          rw [decide_eq_false (str_ne c3)]
          refine iteT ⟨_, rfl, a, _, _, _, rfl, rfl, SqT.of ha, rfl, Nat.zero_le _, fun p hp => ?_⟩
          have s5 : Same H3 (upd H3 p (.tup [])) := same_new hp
          have hw : WV (upd H3 p (.tup [])) (.ref p) [] := ⟨p, rfl, upd_same⟩
          refine ⟨_, _, WV.dp ⟨b, rfl, s5 _ _ hb⟩, hw.dp, rfl, alike_w _ _, (by rw [depth_w]; decide), _, rfl, ?_⟩
          rw [eqv_w]
          by_cases c4 : e.1 = []
          · rw [decide_eq_true c4]
            refine iteF ⟨_, rfl, s4.trans s5, ?_⟩
            have es : shownM e = none := by unfold shownM; rw [if_neg c12, if_pos (.inr c4)]
            rw [hfs, es, List.append_nil]
            exact D3.same mono_th s5
          · rw [decide_eq_false c4]
            refine iteT ⟨(by show 2 ≤ sizeLine; decide), fun q hq => ?_⟩
            have s6 := same_new (o := .tup [V.str FOLDER, .str (("" : String) : Str)]) hq
            have es : shownM e = some ((e.1, (FOLDER, "")) : Ent) := by unfold shownM; rw [if_neg c12, if_neg (by rintro (z | z); exact c3 z; exact c4 z)]
            obtain ⟨o', g', D', z⟩ := ((D3.same mono_th s5).same mono_th s6).put mono_th (s6 _ _ (s5 _ _ hb)) ln (t := ((FOLDER, "") : Thing)) (v := .ref q) ⟨q, rfl, upd_same⟩ (line_big (by omega))
            refine ⟨_, rfl, _, rfl, a, _, _, _, rfl, rfl, SqT.of (s6 _ _ (s5 _ _ ha)), rfl, d, _, rfl, g', _, rfl, same_upd (s4.trans (s5.trans s6)) hd0, ?_⟩
            rw [hfs, es]
            dsimp only
            rw [← List.append_assoc]
            exact D'
        · rintro σ H3 ⟨v3, rfl, s4, D3⟩
          rw [hE1.length, List.take_length] at D3
          have D3' : DictR ThV H3 d (rowsM A t) := D3
          have ndr := rows_nd oA.nd nt
          have rl := rows_length A t
          have few := oA.few
          -- the entries in the order of their ways
          obtain ⟨kvs, ek, qk⟩ := D3'.keys
          refine ⟨_, rfl, d, kvs, rfl, Rd.of ek, fun p1 bs hp1 hk => ?_⟩
          have w1 := qk bs hk
          have s6 := same_new (o := .lst (bs.map V.ref)) hp1
          refine ⟨p1, _, _, rfl, SqL.of upd_same, w1.mono fun _ _ z => z.tst (tst_of s6), fun ys p2 hy hp2 => ?_⟩
          have s7 := same_new (o := .lst ys) hp2
          have S7 := s6.trans s7
          have hys : upd (upd H3 p1 (.lst (bs.map V.ref))) p2 (.lst ys) p2 = some (.lst ys) := upd_same
          have hy' : EachIs (WV (upd (upd H3 p1 (.lst (bs.map V.ref))) p2 (.lst ys))) ys (((rowsM A t).map (·.1)).mergeSort wle) := EachIs.mono (fun _ _ z => z.tst (tst_of s7)) hy
          have D7 := D3'.same mono_th S7
          have S07 := s4.trans S7
          generalize upd (upd H3 p1 (.lst (bs.map V.ref))) p2 (.lst ys) = H7 at S7 hys hy' D7 S07
          refine ⟨p2, rfl, ⟨_, SqL.of hys⟩, fun D hD => ?_⟩
          refine lc_list (K := K) (a := p2) (xs := ys) (fun i H' => ∃ ws : List V, Same H7 H' ∧ H' D = some (.lst ws) ∧ EachIs (EntV H') ws ((orderM (rowsM A t)).take i)) ⟨[], same_new hD, upd_same, .nil⟩ (fun i H' _ ⟨_, s, _⟩ => SqL.of (s _ _ hys)) ?_ ?_
          · rintro i y H8 hi ⟨ws, s8, hW, hE⟩
            obtain ⟨wy, hwy, hwv⟩ := each_get hy' hi
            obtain ⟨b, rfl, hb⟩ := hwv.tst (tst_of s8)
            have hmem : ∃ e ∈ rowsM A t, e.1 = wy := by
              have := List.mem_of_getElem? hwy
              rw [(List.mergeSort_perm _ wle).mem_iff] at this
              obtain ⟨e, he, q⟩ := List.mem_map.mp this
              exact ⟨e, he, q⟩
            obtain ⟨e, he, rfl⟩ := hmem
            have hlk := look_of ndr he
            refine ⟨rfl, yes_if ?_⟩
            refine ⟨_, rfl, (by show 1 ≤ sizeLine; decide), fun p3 hp3 => ?_⟩
            have s9 := same_new (o := .tup [V.ref b]) hp3
            obtain ⟨u, g, a, rfl, ha⟩ := (D7.same mono_th (s8.trans s9)).some_ (s9 _ _ hb) hlk
            refine ⟨_, rfl, _, rfl, d, _, rfl, g, ?_⟩
            refine ⟨p3, a, _, _, rfl, rfl, SqT.of upd_same, SqT.of ha, (by show 3 ≤ sizeLine; decide), fun z => (by cases z), fun _ z => (by cases z), fun _ _ p4 hp4 => ?_⟩
            have s10 := same_new (o := .tup ([V.ref b] ++ [V.str e.2.1, V.str e.2.2])) hp4
            have hW10 := s10 _ _ (s9 _ _ hW)
            have hwl : ws.length ≤ 100005 := by
              rw [hE.length, List.length_take, order_length]
              omega
            refine ⟨ws, hW10, line_big (by omega), ws ++ [.ref p4], same_upd (s8.trans (s9.trans s10)) hD, upd_same, ?_⟩
            have t10 : Tst (upd (upd H8 p3 (.tup [V.ref b])) p4 (.tup ([V.ref b] ++ [V.str e.2.1, V.str e.2.2]))) _ := tst_lst (o := .lst (ws ++ [.ref p4])) hW10
            have hoi : (orderM (rowsM A t))[i]? = some e := by
              unfold orderM
              rw [List.getElem?_map, hwy]
              show some (entM (rowsM A t) e.1) = some e
              unfold entM
              rw [hlk]
              rfl
            rw [List.take_succ, hoi]
            exact each_app (ents_tst hE ((tst_of (s9.trans s10)).trans t10)) (each_one ⟨p4, b, rfl, t10 _ _ upd_same, t10 _ _ (s10 _ _ (s9 _ _ hb))⟩)
          · rintro H8 ⟨ws, s8, hW, hE⟩
            have hyl : ys.length = (orderM (rowsM A t)).length := by
              rw [hy'.length, ← order_ways, List.length_map]
            rw [hyl, List.take_length, order_sort ndr] at hE
            exact k _ _ (S07.trans s8) ⟨D, ws, rfl, hW, hE⟩
theorem sc_lseen : FnScope ["_law_panes", "_law_tree", "_law_pane"] ["_law_panes"] (defScope sLSeen) := ⟨rfl, rfl, rfl, by decide +kernel, rfl, by decide +kernel, by decide +kernel⟩
theorem ok_lseen {f fL : Addr} {fd fdL : FuncData} (F : Fun K "_law_seen" "_law_seen" sLSeen f fd) (T : Txt mg) (FL : Fun K "_law_laid" "_law_laid" sLLaid fL fdL) (bL : Binds K fdL ["_law_pane", "_law_tree"] []) (gL : mg "_law_laid" = some (.ref fL)) :
    FnOk P w K mg base CX0 2 f fd ["_law_panes"] spSeen := by
  have GL : FnOk P w K mg base CX0 1 fL fdL ["_law_pane", "_law_tree"] spLaid := ok_llaid FL T
  refine F.ok sc_lseen (fun vs H Q E h => ?_) (fun cdv A outer s H vs Q E hr h => ?_)
  · obtain ⟨v, ps, rfl, _⟩ := h
    rfl
  · obtain ⟨v, ps, rfl, hP, oP, lP, k⟩ := h
    obtain ⟨l, rs, rfl, hL, hE⟩ := hP
    refine ⟨_, pss_cons (ps_set (i := 1) sc_lseen.nd rfl (Or.inl rfl) (pe_lst pa_nil))
      (pss_cons (ps_for PassesOwn.never rfl (pi_list (pv 0)) (pg_name (i := 2) sc_lseen.nd rfl (Or.inl rfl))
        (pss_one (ps_set (i := 1) sc_lseen.nd rfl (Or.inl rfl) (pe_call GL hr rfl gL FL.kp bL .nil pass0 (pa_cons (pv 2) (pa_cons (pv 1) pa_nil))))))
      (pss_one (ps_ret (pv 1)))), ?_⟩
    refine ⟨Nat.zero_le _, fun r hr0 => ?_⟩
    have s0 : Same H (upd H r (.lst [])) := same_new hr0
    refine ⟨_, rfl, l, rfl, ⟨_, SqL.of (s0 _ _ hL)⟩, for_list (K := K) (a := l) (xs := rs) (fun i σ H' => ∃ (u : V) (v : Option V), σ = [some (.ref l), some u, v] ∧ Same H H' ∧ PaneV H' u (seenM (ps.take i)))
      ⟨.ref r, none, rfl, s0, r, [], rfl, upd_same, .nil⟩ (fun i σ H' _ ⟨_, _, _, s1, _⟩ => SqL.of (s1 _ _ hL)) ?_ ?_⟩
    · rintro i x σ H1 hi ⟨u, v, rfl, s1, hu⟩
      obtain ⟨p, hp, hx⟩ := each_get hE hi
      obtain ⟨f1, f2, f3⟩ := seen_facts oP lP i
      refine ⟨_, rfl, _, rfl, x, u, p, _, rfl, hx.same s1, hu, oP p (List.mem_of_getElem? hp), f1, f2, by omega, fun H2 r s2 hr2 => ?_⟩
      rw [← seen_succ hp] at hr2
      exact ⟨r, some x, rfl, s1.trans s2, hr2⟩
    · rintro σ H1 ⟨u, v, rfl, s1, hu⟩
      rw [hE.length, List.take_length] at hu
      exact ⟨_, rfl, k _ _ s1 hu⟩
end
end GL

/-! G11: the law's same, sunk, passed. -/
namespace GL
open PySem PySem.Spec PyProof.Rows L2
open PySem.W (EachIs)
open C8 (pss_cut tCut)
/-! ### isinstance of the error that the suite holds, its class told by the reading -/
def rE1 (K : PySem.W.Frag) (D a : Addr) (cls : Value) (d : Option Addr) : List V → Hp → VK → Prop := fun xs H Q => cls = .ref D ∧ d = none ∧ rIsE K D a xs H Q
def rE5 (K : PySem.W.Frag) (D a : Addr) (cls : Value) (d : Option Addr) : List V → Hp → VK → Prop := fun xs H Q => cls = .ref D ∧ d = none ∧ rIsET K D a xs H Q
theorem call_e1 {X : Cx} {K : PySem.W.Frag} {a D : Addr} {oe : Obj} {pn : List (Addr × Obj)} {cls : Value} {d : Option Addr} (hK : X.K = K) (C : ExcC K D) (hz : Zc cls d oe) (hf : ∃ vs, oe.data = .fields vs) : CallR (X.suite a ((a, oe) :: pn)) (.builtin "isinstance") (rE1 K D a cls d) := by
  subst hK
  intro pins s σ H xs us Q I r h
  obtain ⟨rfl, rfl, h⟩ := h
  exact call_isE C hz hf pins s σ H xs us Q I r h
theorem call_e5 {X : Cx} {K : PySem.W.Frag} {a D : Addr} {oe : Obj} {pn : List (Addr × Obj)} {cls : Value} {d : Option Addr} (hK : X.K = K) (C : ExcC K D) (hz : Zc cls d oe) (hf : ∃ vs, oe.data = .fields vs) : CallR (X.suite a ((a, oe) :: pn)) (.builtin "isinstance") (rE5 K D a cls d) := by
  subst hK
  intro pins s σ H xs us Q I r h
  obtain ⟨rfl, rfl, h⟩ := h
  exact call_isET C hz hf pins s σ H xs us Q I r h
/-! ### promises -/
def spLSame : Sp := fun vs H Q _ => ∃ (v1 v2 : V) (A : List Ent), vs = [v1, v2] ∧ PaneV H v1 A ∧ PaneV H v2 A ∧ A.length ≤ 1000 ∧ ∀ H' : Hp, Same H H' → Q (.bl true) H'
def spLSunk (C : Addr) : Sp := fun vs H Q _ => ∃ (g : Addr) (ps : List (List Ent)) (k : Int), vs = [.ref g, .int k] ∧ GlassV C H g ps ∧ PsOk ps ∧ ((k < 0 ∨ (ps.length : Int) ≤ k) → ∀ H' : Hp, Same H H' → Q (.bl true) H') ∧
  (∀ n : Nat, k = (n : Int) → n < ps.length → ∀ (H' : Hp) (a : Addr) (vp : V), (∀ b o, H b = some o → b ≠ g → H' b = some o) → GlassV C H' g (sinkM n ps).1 → H' a = some (.tup [.int ((sinkM n ps).2.1 : Nat), vp]) → PairV H' vp (sinkM n ps).2.2 → Q (.ref a) H')
def spPassed : Sp := fun vs H Q _ => ∃ (v : V) (ps : List (List Ent)) (n : Nat) (r : List (List Ent) × Nat × Option (Ent × Ent)) (vp : V), vs = [v, .int (n : Nat), .int (r.2.1 : Nat), vp] ∧ PanesV H v ps ∧ PsOk ps ∧ n < ps.length ∧ SunkOk ps n r ∧ PairV H vp r.2.2 ∧
  ∀ H' : Hp, Same H H' → Q (.bl true) H'
/-- what the top says of the errors -/
structure ErrT (K : PySem.W.Frag) (mg : Str → Option Value) (CN CG c1 c2 c3 c4 c5 d1 d2 d3 d4 d5 : Addr) : Prop where
  ex : ExcC K CN
  eP : PySem.W.exmOne K (.ref CN) (.ref CN) = some true
  gG : mg "GlassError" = some (.ref CG)
  oG : PySem.W.kitOne K (.ref CN) (.ref CG) = some true
  g1 : mg "Missing" = some (.ref c1)
  g2 : mg "NotFolder" = some (.ref c2)
  g3 : mg "NoPlace" = some (.ref c3)
  g4 : mg "Astray" = some (.ref c4)
  g5 : mg "IsFolder" = some (.ref c5)
  h1 : mg "IsThere" = some (.ref d1)
  h2 : mg "NotEmpty" = some (.ref d2)
  h3 : mg "InItself" = some (.ref d3)
  h4 : mg "TooDeep" = some (.ref d4)
  h5 : mg "Crowded" = some (.ref d5)
  a1 : PySem.W.kitAny K (.ref CN) [.ref c1, .ref c2, .ref c3, .ref c4, .ref c5] = some false
  a2 : PySem.W.kitAny K (.ref CN) [.ref d1, .ref d2, .ref d3, .ref d4, .ref d5] = some false
theorem paired5 (c1 c2 c3 c4 c5 : Addr) : Paired ClsV [.ref c1, .ref c2, .ref c3, .ref c4, .ref c5] [.ref c1, .ref c2, .ref c3, .ref c4, .ref c5] := .cons (.own _) (.cons (.own _) (.cons (.own _) (.cons (.own _) (.cons (.own _) .nil))))
theorem eqv_same {d : PyData} (h : PySem.W.alike d d = true) : PyData.eqv d d = true := PySem.W.eqv_refl_alike d h
theorem cut_mid {xs : List V} {a b : Nat} (h : a ≤ b) (hb : b ≤ xs.length) : cutV xs (some (a : Int)) (some (b : Int)) = (xs.drop a).take (b - a) := by
  unfold cutV
  rw [HT.sIx_nat, HT.sIx_nat, Nat.min_eq_left hb, Nat.min_eq_left (Nat.le_trans h hb)]
theorem cut_to {xs : List V} {b : Nat} (hb : b ≤ xs.length) : cutV xs none (some (b : Int)) = xs.take b := by
  unfold cutV
  rw [HT.sIx_nat, HT.sIx_none, Nat.min_eq_left hb, List.drop_zero, Nat.sub_zero]
theorem cut_from {xs : List V} {a : Nat} (h : a ≤ xs.length) : cutV xs (some (a : Int)) none = xs.drop a := by
  unfold cutV
  rw [HT.sIx_nat, HT.sIx_none, Nat.min_eq_left h]
  exact List.take_of_length_le (by rw [List.length_drop]; exact Nat.le_refl _)
section
variable {P : Program} {w : World} {K : PySem.W.Frag} {mg : Str → Option Value} {base : Heap}
theorem sc_lsame : FnScope ["_law_found", "_law_due", "_law_k", "_law_row"] ["_law_found", "_law_due"] (defScope sLSame) := ⟨rfl, rfl, rfl, by decide +kernel, rfl, by decide +kernel, by decide +kernel⟩
theorem ok_lsame {f : Addr} {fd : FuncData} (F : Fun K "_law_same" "_law_same" sLSame f fd) (T : Txt mg) : FnOk P w K mg base CX0 1 f fd ["_law_found", "_law_due"] spLSame := by
  refine F.ok sc_lsame (fun vs H Q E h => ?_) (fun cdv A outer s H vs Q E hr h => ?_)
  · obtain ⟨v1, v2, A, rfl, _⟩ := h
    rfl
  · obtain ⟨v1, v2, A, rfl, h1, h2, hl, k⟩ := h
    obtain ⟨l1, rs1, rfl, hL1, hE1⟩ := h1
    obtain ⟨l2, rs2, rfl, hL2, hE2⟩ := h2
    refine ⟨_, pss_cons (ps_if (PW.pt (pw_or (pt_not (pt_val (pe_callB call_isi (by rfl) T.isinstance (by decide +kernel) (pa_cons (pv 0) (pa_cons (pe_bltn (v := .ty "list") (u := .type "list") (by rfl) T.list (by decide +kernel) rfl) pa_nil)))))
          (pw_or1 (pt_cmpR op_ne (pe_callB call_len_seq (by rfl) T.len PySem.boot_len (pa_cons (pv 0) pa_nil)) (pe_callB call_len_seq (by rfl) T.len PySem.boot_len (pa_cons (pv 1) pa_nil)) (nomark _)))))
        (pss_one (ps_ret pe_bl)) pss_nil)
      (pss_cons (ps_for PassesOwn.never rfl (pi_range1 rfl T.range (pa_cons (pe_callB call_len_seq (by rfl) T.len PySem.boot_len (pa_cons (pv 1) pa_nil)) pa_nil)) (pg_name (i := 2) sc_lsame.nd rfl (Or.inl rfl))
        (pss_cons (ps_set (i := 3) sc_lsame.nd rfl (Or.inl rfl) (pe_ix ix_list (pv 0) (pv 2) (fun _ _ => rfl)))
        (pss_cons (ps_if (PW.pt (pw_or (pt_not (pt_val (pe_callB call_isi (by rfl) T.isinstance (by decide +kernel) (pa_cons (pv 3) (pa_cons (pe_bltn (v := .ty "tuple") (u := .type "tuple") (by rfl) T.tuple (by decide +kernel) rfl) pa_nil)))))
            (pw_or (pt_cmpR op_ne (pe_callB call_len_seq (by rfl) T.len PySem.boot_len (pa_cons (pv 3) pa_nil)) pe_int (nomark _))
            (pw_or1 (pt_not (pt_val (pe_callB call_isi (by rfl) T.isinstance (by decide +kernel) (pa_cons (pe_ix ix_tup (pv 3) pe_int (fun _ _ => rfl)) (pa_cons (pe_bltn (v := .ty "tuple") (u := .type "tuple") (by rfl) T.tuple (by decide +kernel) rfl) pa_nil)))))))))
          (pss_one (ps_ret pe_bl)) pss_nil)
        (pss_one (ps_if (PW.pt (pw_or (pt_not (pt_val (pe_callB call_isi (by rfl) T.isinstance (by decide +kernel) (pa_cons (pe_ix ix_tup (pv 3) pe_int (fun _ _ => rfl)) (pa_cons (pe_bltn (v := .ty "str") (u := .type "str") (by rfl) T.str (by decide +kernel) rfl) pa_nil)))))
            (pw_or (pt_not (pt_val (pe_callB call_isi (by rfl) T.isinstance (by decide +kernel) (pa_cons (pe_ix ix_tup (pv 3) pe_int (fun _ _ => rfl)) (pa_cons (pe_bltn (v := .ty "str") (u := .type "str") (by rfl) T.str (by decide +kernel) rfl) pa_nil)))))
            (pw_or1 (pt_cmpR (op_neA hr.units) (pv 3) (pe_ix ix_list (pv 1) (pv 2) (fun _ _ => rfl)) (nomark _))))))
          (pss_one (ps_ret pe_bl)) pss_nil)))))
      (pss_one (ps_ret pe_bl))), ?_⟩
    have hlen : rs1.length = rs2.length := hE1.length.trans hE2.length.symm
    have hl2 : rs2.length ≤ 1000 := by rw [hE2.length]; exact hl
    refine ⟨_, rfl, _, _, _, _, true, rfl, .ty "list", .base (.lst hL1), kit_ty (by decide +kernel), _, rfl, iteF ?_⟩
    refine ⟨_, rfl, l1, _, rfl, .inl (SqL.of hL1), _, rfl, l2, _, rfl, .inl (SqL.of hL2), rfl, _, rfl, iteNS (by rw [hlen]) ?_⟩
    refine ⟨_, rfl, l2, _, rfl, .inl (SqL.of hL2), _, rfl, (len_small hl2).1, (len_small hl2).2, ?_⟩
    refine for_range (lo := 0) (n := ((rs2.length : Nat) : Int).toNat) (fun i σ H' => ∃ v2 v3 : Option V, σ = [some (.ref l1), some (.ref l2), v2, v3] ∧ H' = H) ⟨none, none, rfl, rfl⟩ ?_ ?_
    · rintro i σ H' hi ⟨v2, v3, rfl, rfl⟩
      have hz : (0 : Int) + (i : Nat) = (i : Int) := Int.zero_add _
      have hi2 : i < rs2.length := by rw [Int.toNat_natCast] at hi; exact hi
      obtain ⟨e, he, hx2⟩ := each_get hE2 (List.getElem?_eq_getElem hi2)
      obtain ⟨x1, hx1, hp1⟩ := each_get2 hE1 he
      have hp1' := hp1
      obtain ⟨a, b, rfl, ha, hb⟩ := hp1
      refine ⟨_, rfl, _, rfl, l1, _, _, _, rfl, rfl, SqL.of hL1, at_of hz hx1, ?_⟩
      refine ⟨_, rfl, _, _, _, _, true, rfl, .ty "tuple", .base (.tup ha), kit_ty (by decide +kernel), _, rfl, iteF ?_⟩
      refine ⟨_, rfl, a, _, rfl, .inr (SqT.of ha), rfl, _, rfl, iteNS rfl ?_⟩
      refine ⟨_, rfl, a, _, _, _, rfl, rfl, SqT.of ha, rfl, _, _, _, _, true, rfl, .ty "tuple", .base (.tup hb), kit_ty (by decide +kernel), _, rfl, iteF ?_⟩
      refine ⟨_, rfl, a, _, _, _, rfl, rfl, SqT.of ha, rfl, _, _, _, _, true, rfl, .ty "str", .base (.str _), kit_ty (by decide +kernel), _, rfl, iteF ?_⟩
      refine ⟨_, rfl, a, _, _, _, rfl, rfl, SqT.of ha, rfl, _, _, _, _, true, rfl, .ty "str", .base (.str _), kit_ty (by decide +kernel), _, rfl, iteF ?_⟩
      refine ⟨_, rfl, _, rfl, _, rfl, l2, _, _, _, rfl, rfl, SqL.of hL2, at_of hz (List.getElem?_eq_getElem hi2), _, _, hp1'.dp, hx2.dp, rfl, alike_e e e, (by rw [depth_e]; decide), _, rfl, ?_⟩
      rw [eqv_same (alike_e e e)]
      exact iteF ⟨_, _, rfl, rfl⟩
    · rintro σ H' ⟨v2, v3, rfl, rfl⟩
      exact k _ (Same.refl _)
theorem sc_lsunk : FnScope ["_law_glass", "_law_k", "e", "_law_good"] ["_law_glass", "_law_k"] (defScope sLSunk) := ⟨rfl, rfl, rfl, by decide +kernel, rfl, by decide +kernel, by decide +kernel⟩
theorem ok_lsunk {f fK C CN CG c1 c2 c3 c4 c5 d1 d2 d3 d4 d5 : Addr} {fd fdK : FuncData} (F : Fun K "_law_sunk" "_law_sunk" sLSunk f fd) (T : Txt mg) (GT : GTxt K C) (mS : Meth K C "sink" fK) (GS : FnOk P w K mg base (L2.CX P w) 5 fK fdK ["self", "k"] (spGSink C CN)) (bK : Binds K fdK ["self", "k"] [])
    (TN : ETxt K mg "NoPane" CN) (ER : ErrT K mg CN CG c1 c2 c3 c4 c5 d1 d2 d3 d4 d5) : FnOk P w K mg base CX0 6 f fd ["_law_glass", "_law_k"] (spLSunk C) := by
  refine F.ok sc_lsunk (fun vs H Q E h => ?_) (fun cdv A outer s H vs Q E hr h => ?_)
  · obtain ⟨g, ps, k, rfl, _⟩ := h
    rfl
  · obtain ⟨g, ps, k, rfl, hG, oP, kE, kS⟩ := h
    refine ⟨_, pss_one (ps_try_as (i := 2) (tb := fun W => tRet (tMethSl C "sink" (spGSink C CN) (WE W) (tVar 0) (tCons (tVar 1) tNil))) (Wout := fun _ _ _ _ => False) rfl rfl sc_lsunk.nd rfl rfl ⟨rfl, by decide, Or.inl TN.gP⟩ takes0
        (fun W pn xe tk _ => pss_one (ps_ret (by exact (pe_methSl (pv 0) GT.cl mS GS hr bK (fun σ => passAt tk σ) (pa_cons (pv 1) pa_nil)))))
        (fun a oe cls d pn hz hf => pss_cons (ps_set (i := 3) sc_lsunk.nd rfl (Or.inl rfl) (pe_callB (call_e1 (K := K) rfl ER.ex hz hf) (by rfl) T.isinstance (by decide +kernel) (pa_cons (pv 2) (pa_cons (pe_glob (v := .ref CG) rfl ER.gG rfl) pa_nil))))
          (pss_cons (ps_set (i := 3) sc_lsunk.nd rfl (Or.inl rfl) (pe_and (pv 3) (pe_one (pe_not (pe_callB (call_e5 (K := K) rfl ER.ex hz hf) (by rfl) T.isinstance (by decide +kernel) (pa_cons (pv 2) (pa_cons (pe_tup
              (pa_cons (pe_glob (v := .ref c1) rfl ER.g1 rfl) (pa_cons (pe_glob (v := .ref c2) rfl ER.g2 rfl) (pa_cons (pe_glob (v := .ref c3) rfl ER.g3 rfl) (pa_cons (pe_glob (v := .ref c4) rfl ER.g4 rfl) (pa_cons (pe_glob (v := .ref c5) rfl ER.g5 rfl) pa_nil)))))) pa_nil)))))))
          (pss_one (ps_ret (pe_and (pv 3) (pe_one (pe_not (pe_callB (call_e5 (K := K) rfl ER.ex hz hf) (by rfl) T.isinstance (by decide +kernel) (pa_cons (pv 2) (pa_cons (pe_tup
              (pa_cons (pe_glob (v := .ref d1) rfl ER.h1 rfl) (pa_cons (pe_glob (v := .ref d2) rfl ER.h2 rfl) (pa_cons (pe_glob (v := .ref d3) rfl ER.h3 rfl) (pa_cons (pe_glob (v := .ref d4) rfl ER.h4 rfl) (pa_cons (pe_glob (v := .ref d5) rfl ER.h5 rfl) pa_nil)))))) pa_nil))))))))))), ?_⟩
    obtain ⟨dx, u, hg, hu⟩ := hG
    refine ⟨_, rfl, g, dx, _, rfl, hg, gF_no u (by decide +kernel), _, rfl, g, ps, k, rfl, ⟨dx, u, hg, hu⟩, oP, fun hk => ?_, kS⟩
    refine ⟨true, ER.eP, fun _ a ha => ?_, fun q => nomatch q⟩
    refine ⟨_, rfl, rfl, rfl, .ref CG, .ref CG, true, rfl, fun _ h => h, ER.oG, ?_⟩
    refine ⟨_, rfl, true, rfl, iteT ⟨_, rfl, (by show 5 ≤ sizeLine; decide), fun p hp => ?_⟩⟩
    refine ⟨rfl, rfl, p, _, _, false, rfl, upd_same, paired5 c1 c2 c3 c4 c5, ER.a1, _, rfl, ?_⟩
    have s1 := same_new (o := .tup [.ref c1, .ref c2, .ref c3, .ref c4, .ref c5]) hp
    refine ⟨_, rfl, true, rfl, iteT ⟨_, rfl, (by show 5 ≤ sizeLine; decide), fun p2 hp2 => ?_⟩⟩
    have s2 := same_new (o := .tup [.ref d1, .ref d2, .ref d3, .ref d4, .ref d5]) hp2
    exact ⟨rfl, rfl, p2, _, _, false, rfl, upd_same, paired5 d1 d2 d3 d4 d5, ER.a2, _, rfl, kE hk _ (s1.trans s2)⟩
theorem sc_passed : FnScope ["_law_panes", "_law_k", "_law_low", "_law_pair", "_law_under", "_law_due"] ["_law_panes", "_law_k", "_law_low", "_law_pair"] (defScope sPassed) := ⟨rfl, rfl, rfl, by decide +kernel, rfl, by decide +kernel, by decide +kernel⟩
theorem ok_passed {f fM : Addr} {fd fdM : FuncData} (F : Fun K "_law_passed" "_law_passed" sPassed f fd) (T : Txt mg) (FM : Fun K "meet" "meet" sMeet fM fdM) (bM : Binds K fdM ["upper", "lower"] []) (gM : mg "meet" = some (.ref fM))
    (GM : FnOk P w K mg base CX0 3 fM fdM ["upper", "lower"] spMeet) : FnOk P w K mg base CX0 4 f fd ["_law_panes", "_law_k", "_law_low", "_law_pair"] spPassed := by
  refine F.ok sc_passed (fun vs H Q E h => ?_) (fun cdv A outer s H vs Q E hr h => ?_)
  · obtain ⟨v, ps, n, r, vp, rfl, _⟩ := h
    rfl
  · obtain ⟨v, ps, n, r, vp, rfl, hP, oP, hn, hS, hV, k⟩ := h
    obtain ⟨l, rs, rfl, hL, hR⟩ := hP
    refine ⟨_, pss_cons (ps_for PassesOwn.never rfl (pi_list (pe_slice sl_list (pv 0) (po_some (pv 2)) (po_some (pv 1)))) (pg_name (i := 4) sc_passed.nd rfl (Or.inl rfl))
        (pss_one (ps_if (pt_cmp (pc_notN (pe_call GM hr rfl gM FM.kp bM .nil pass0 (pa_cons (pe_ix ix_list (pv 0) (pv 1) (fun _ _ => rfl)) (pa_cons (pv 4) pa_nil))))) (pss_one (ps_ret pe_bl)) pss_nil)))
      (pss_cons (ps_if (pt_cmpR op_eq (pv 2) pe_int (nomark _)) (pss_one (ps_ret (pe_cmp (pc_isN (pv 3))))) pss_nil)
      (pss_cons (ps_set (i := 5) sc_passed.nd rfl (Or.inl rfl) (pe_call GM hr rfl gM FM.kp bM .nil pass0 (pa_cons (pe_ix ix_list (pv 0) (pv 1) (fun _ _ => rfl)) (pa_cons (pe_ix ix_list (pv 0) (pe_op op_sub (pv 2) pe_int) (fun _ _ => rfl)) pa_nil))))
      (pss_one (ps_ret (pe_and (pe_cmp (pc_notN (pv 5))) (pe_one (pe_cmpR (op_eqA hr.units) (pv 3) (pv 5) (nomark _)))))))), ?_⟩
    have hlow := hS.low
    have hrl : rs.length = ps.length := hR.length
    have qn : ps[n]? = some (ps.getD n []) := by rw [List.getD_eq_getElem?_getD, List.getElem?_eq_getElem hn]; rfl
    obtain ⟨xn, hxn, hpn⟩ := each_get2 hR qn
    have on : PaneOk (ps.getD n []) := oP.1 _ (List.mem_of_getElem? qn)
    refine ⟨_, rfl, _, rfl, _, rfl, _, rfl, _, rfl, l, rs, rfl, SqL.of hL, fun p hp => ?_⟩
    have s0 := same_new (o := .lst (cutV rs (some ((r.2.1 : Nat) : Int)) (some ((n : Nat) : Int)))) hp
    refine ⟨p, rfl, ⟨_, SqL.of upd_same⟩, for_list (K := K) (a := p) (xs := cutV rs (some ((r.2.1 : Nat) : Int)) (some ((n : Nat) : Int))) (fun i σ H' => ∃ v4 : Option V, σ = [some (.ref l), some (.int (n : Nat)), some (.int (r.2.1 : Nat)), some vp, v4, none] ∧ Same (upd H p (.lst (cutV rs (some ((r.2.1 : Nat) : Int)) (some ((n : Nat) : Int))))) H')
      ⟨none, rfl, Same.refl _⟩ (fun i σ H' _ ⟨_, _, s1⟩ => SqL.of (s1 _ _ upd_same)) ?_ ?_⟩
    · rintro i x σ H1 hi ⟨v4, rfl, s1⟩
      rw [cut_mid hlow (by omega)] at hi
      have hi2 : i < n - r.2.1 := by
        have := (List.getElem?_eq_some_iff.mp hi).1
        rw [List.length_take] at this
        omega
      rw [List.getElem?_take_of_lt hi2, List.getElem?_drop] at hi
      obtain ⟨B, hB, hxB⟩ := each_get hR hi
      have oB : PaneOk B := oP.1 _ (List.mem_of_getElem? hB)
      have s01 := s0.trans s1
      have hm := hS.past (r.2.1 + i) (by omega) (by omega)
      have eB : ps.getD (r.2.1 + i) [] = B := by rw [List.getD_eq_getElem?_getD, hB]; rfl
      rw [eB] at hm
      refine ⟨_, rfl, _, rfl, l, _, _, xn, rfl, rfl, SqL.of (s01 _ _ hL), at_of rfl hxn, _, rfl, ?_⟩
      refine ⟨xn, x, _, B, rfl, hpn.same s01, hxB.same s01, on, oB, fun H2 u s2 hu => ?_⟩
      rw [hm] at hu
      have eu : u = .non := hu
      subst eu
      exact ⟨_, rfl, iteF ⟨_, rfl, s1.trans s2⟩⟩
    · rintro σ H1 ⟨v4, rfl, s1⟩
      have s01 := s0.trans s1
      refine ⟨_, rfl, rfl, _, rfl, ?_⟩
      rcases Nat.eq_zero_or_pos r.2.1 with c0 | c0
      · have cz : V.int (r.2.1 : Nat) = V.int 0 := by rw [c0]; rfl
        rw [decide_eq_true cz]
        have hv2 := hV
        rw [hS.pair0 c0] at hv2
        have eu : vp = .non := hv2
        subst eu
        refine iteT ⟨_, rfl, ?_⟩
        show Q (.bl (decide (V.non = .non))) H1
        rw [decide_eq_true rfl]
        exact k _ s01
      · obtain ⟨j, hj⟩ : ∃ j, r.2.1 = j + 1 := ⟨r.2.1 - 1, by omega⟩
        obtain ⟨e1, e2⟩ := hS.pair1 j hj
        have cn : ¬ (V.int (r.2.1 : Nat) = V.int 0) := by intro q; injection q with q; omega
        rw [decide_eq_false cn]
        have hjl : j < ps.length := by omega
        have qj : ps[j]? = some (ps.getD j []) := by rw [List.getD_eq_getElem?_getD, List.getElem?_eq_getElem hjl]; rfl
        obtain ⟨xj, hxj, hpj⟩ := each_get2 hR qj
        have oj : PaneOk (ps.getD j []) := oP.1 _ (List.mem_of_getElem? qj)
        have ei : ((r.2.1 : Nat) : Int) - 1 = (j : Int) := by omega
        have hL1 := s01 _ _ hL
        refine iteF ⟨_, rfl, _, rfl, l, _, _, xn, rfl, rfl, SqL.of hL1, at_of rfl hxn, _, rfl, _, rfl, _, _, rfl, rfl, l, _, _, xj, rfl, rfl, SqL.of hL1, at_of ei hxj, ?_⟩
        refine ⟨xn, xj, _, _, rfl, hpn.same s01, hpj.same s01, on, oj, fun H2 u s2 hu => ?_⟩
        rw [← e1] at hu
        cases q : r.2.2 with
        | none => rw [q] at e2; cases e2
        | some pr =>
          rw [q] at hu hV
          have hu2 := hu
          obtain ⟨a, va, vb, rfl, _⟩ := hu2
          refine ⟨_, rfl, _, rfl, iteT ⟨_, rfl, _, rfl, _, _, PairV.dp (hV.tst (tst_of (s01.trans s2))), PairV.dp hu, rfl, alike_pr pr pr, (by rw [depth_pr]; decide), ?_⟩⟩
          rw [eqv_same (alike_pr pr pr)]
          exact k _ (s01.trans s2)
end
end GL

/-! G12: right, law. -/
namespace GL
open PySem PySem.Spec PyProof.Rows L2
open PySem.W (EachIs)
open C8 (pss_cut tCut)
theorem GlassV.same {C g : Addr} {H H' : Hp} {ps : List (List Ent)} (h : GlassV C H g ps) (s : Same H H') : GlassV C H' g ps := by
  obtain ⟨dx, u, e, q⟩ := h
  exact ⟨dx, u, s _ _ e, q.same s⟩
theorem but_trans {H H1 H2 : Hp} {g : Addr} (h : ∀ b o, H b = some o → b ≠ g → H1 b = some o) (s : Same H1 H2) : ∀ b o, H b = some o → b ≠ g → H2 b = some o := fun b o e hb => s _ _ (h b o e hb)
def spRight (C : Addr) : Sp := fun vs H Q _ => ∃ (g : Addr) (v : V) (ps : List (List Ent)) (k : Int), vs = [.ref g, v, .int k] ∧ GlassV C H g ps ∧ PanesV H v ps ∧ PsOk ps ∧
  ∀ (H' : Hp) (qs : List (List Ent)), (∀ b o, H b = some o → b ≠ g → H' b = some o) → GlassV C H' g qs → PsOk qs → qs.length = ps.length → Q (.bl true) H'
def spLaw (K : PySem.W.Frag) : Sp := fun vs H Q _ => ∃ (a : Addr) (ns : List Int), vs = [.ref a] ∧ SqL K H a (ns.map V.int) ∧ ns.length ≤ 63 ∧ ∀ H' : Hp, Q (.bl true) H'
section
variable {P : Program} {w : World} {K : PySem.W.Frag} {mg : Str → Option Value} {base : Heap}
theorem sc_right : FnScope ["_law_glass", "_law_panes", "_law_k", "_law_told", "_law_behind", "_law_low", "_law_due"] ["_law_glass", "_law_panes", "_law_k"] (defScope sRight) := ⟨rfl, rfl, rfl, by decide +kernel, rfl, by decide +kernel, by decide +kernel⟩
theorem ok_right {f fS fP fE fD fA fL C : Addr} {fd fdS fdP fdE fdD fdA fdL : FuncData} (F : Fun K "_law_right" "_law_right" sRight f fd) (T : Txt mg) (GT : GTxt K C)
    (FS : Fun K "_law_sunk" "_law_sunk" sLSunk fS fdS) (bS : Binds K fdS ["_law_glass", "_law_k"] []) (gS : mg "_law_sunk" = some (.ref fS)) (GS : FnOk P w K mg base CX0 6 fS fdS ["_law_glass", "_law_k"] (spLSunk C))
    (mP : Meth K C "panes" fP) (bP : Binds K fdP ["self"] []) (GP : FnOk P w K mg base CX0 1 fP fdP ["self"] (spGPanes C))
    (mE : Meth K C "seen" fE) (bE : Binds K fdE ["self"] []) (GE : FnOk P w K mg base CX0 4 fE fdE ["self"] (spGSeen C))
    (FD : Fun K "_law_passed" "_law_passed" sPassed fD fdD) (bD : Binds K fdD ["_law_panes", "_law_k", "_law_low", "_law_pair"] []) (gD : mg "_law_passed" = some (.ref fD)) (GD : FnOk P w K mg base CX0 4 fD fdD ["_law_panes", "_law_k", "_law_low", "_law_pair"] spPassed)
    (FA : Fun K "_law_same" "_law_same" sLSame fA fdA) (bA : Binds K fdA ["_law_found", "_law_due"] []) (gA : mg "_law_same" = some (.ref fA))
    (FL : Fun K "_law_seen" "_law_seen" sLSeen fL fdL) (bL : Binds K fdL ["_law_panes"] []) (gL : mg "_law_seen" = some (.ref fL)) (GLs : FnOk P w K mg base CX0 2 fL fdL ["_law_panes"] spSeen) :
    FnOk P w K mg base CX0 7 f fd ["_law_glass", "_law_panes", "_law_k"] (spRight C) := by
  have GA : FnOk P w K mg base CX0 1 fA fdA ["_law_found", "_law_due"] spLSame := ok_lsame FA T
  refine F.ok sc_right (fun vs H Q E h => ?_) (fun cdv A outer s H vs Q E hr h => ?_)
  · obtain ⟨g, v, ps, k, rfl, _⟩ := h
    rfl
  · obtain ⟨g, v, ps, k, rfl, hG, hP, oP, kk⟩ := h
    have hr1 : Room 1 _ := hr.mono (by decide)
    have hr2 : Room 2 _ := hr.mono (by decide)
    have hr4 : Room 4 _ := hr.mono (by decide)
    refine ⟨_, pss_cons (ps_set (i := 3) sc_right.nd rfl (Or.inl rfl) (pe_call GS hr rfl gS FS.kp bS .nil pass0 (pa_cons (pv 0) (pa_cons (pv 2) pa_nil))))
      (pss_cons (ps_set (i := 4) sc_right.nd rfl (Or.inl rfl) (pe_meth0 (pv 0) GT.cl mP GP hr1 bP .nil pass0))
      (pss_cons (ps_if (PW.pt (pw_or (pt_cmpR op_lt (pv 2) pe_int (nomark _)) (pw_or1 (pt_cmpR op_ge (pv 2) (pe_callB call_len_seq (by rfl) T.len PySem.boot_len (pa_cons (pv 1) pa_nil)) (nomark _)))))
        (pss_one (ps_ret (pe_and (pe_cmpR op_isBl (pv 3) pe_bl (nomark _)) (pe_one (pe_cmpR (op_eqA hr.units) (pv 4) (pv 1) (nomark _)))))) pss_nil)
      (pss_cons (ps_if (PW.pt (pw_or (pt_not (pt_val (pe_callB call_isi (by rfl) T.isinstance (by decide +kernel) (pa_cons (pv 3) (pa_cons (pe_bltn (v := .ty "tuple") (u := .type "tuple") (by rfl) T.tuple (by decide +kernel) rfl) pa_nil)))))
          (pw_or1 (pt_cmpR op_ne (pe_callB call_len_seq (by rfl) T.len PySem.boot_len (pa_cons (pv 3) pa_nil)) pe_int (nomark _)))))
        (pss_one (ps_ret pe_bl)) pss_nil)
      (pss_cons (ps_set (i := 5) sc_right.nd rfl (Or.inl rfl) (pe_ix ix_tup (pv 3) pe_int (fun _ _ => rfl)))
      (pss_cons (ps_if (PW.pt (pw_or (pt_not (pt_val (pe_callB call_isi (by rfl) T.isinstance (by decide +kernel) (pa_cons (pv 5) (pa_cons (pe_bltn (v := .ty "int") (u := .type "int") (by rfl) T.int (by decide +kernel) rfl) pa_nil)))))
          (pw_or (pt_val (pe_callB call_isi (by rfl) T.isinstance (by decide +kernel) (pa_cons (pv 5) (pa_cons (pe_bltn (v := .ty "bool") (u := .type "bool") (by rfl) T.bool (by decide +kernel) rfl) pa_nil))))
          (pw_or (pt_cmpR op_lt (pv 5) pe_int (nomark _)) (pw_or1 (pt_cmpR op_gt (pv 5) (pv 2) (nomark _)))))))
        (pss_one (ps_ret pe_bl)) pss_nil)
      (pss_cons (ps_set (i := 6) sc_right.nd rfl (Or.inl rfl) (pe_op op_cat (pe_slice sl_list (pv 1) po_none (po_some (pv 5))) (pe_lst (pa_cons (pe_ix ix_list (pv 1) (pv 2) (fun _ _ => rfl)) pa_nil))))
      (pss_cons (ps_set (i := 6) sc_right.nd rfl (Or.inl rfl) (pe_op op_cat (pe_op op_cat (pv 6) (pe_slice sl_list (pv 1) (po_some (pv 5)) (po_some (pv 2)))) (pe_slice sl_list (pv 1) (po_some (pe_op op_add (pv 2) pe_int)) po_none)))
      (pss_cons (ps_if (pt_cmpR (op_neA hr.units) (pv 4) (pv 6) (nomark _)) (pss_one (ps_ret pe_bl)) pss_nil)
      (pss_cons (ps_if (pt_not (pt_val (pe_call GD hr4 rfl gD FD.kp bD .nil pass0 (pa_cons (pv 1) (pa_cons (pv 2) (pa_cons (pv 5) (pa_cons (pe_ix ix_tup (pv 3) pe_int (fun _ _ => rfl)) pa_nil))))))) (pss_one (ps_ret pe_bl)) pss_nil)
      (pss_one (ps_ret (pe_call GA hr1 rfl gA FA.kp bA .nil pass0 (pa_cons (pe_meth0 (pv 0) GT.cl mE GE hr4 bE .nil pass0) (pa_cons (pe_call GLs hr2 rfl gL FL.kp bL .nil pass0 (pa_cons (pv 1) pa_nil)) pa_nil)))))))))))))), ?_⟩
    have hG0 := hG
    obtain ⟨dx0, u0, hg0, hu0⟩ := hG0
    have ng0 := ins_no hg0
    refine ⟨_, rfl, _, rfl, g, ps, k, rfl, hG, oP, fun hk H1 s1 => ?_, fun n hn hl H1 a vp sB hG1 ha hV => ?_⟩
    · -- refused
      have hG1 := hG.same s1
      have hG1' := hG1
      obtain ⟨dx, u, hg, hu⟩ := hG1'
      refine ⟨_, rfl, g, dx, _, rfl, hg, gF_no u (by decide +kernel), g, ps, rfl, hG1, oP.2, fun H2 r s2 hr2 => ?_⟩
      have hP2 := hP.same (s1.trans s2)
      have hP3 := hP2
      obtain ⟨l, rs, rfl, hL, hR⟩ := hP3
      refine ⟨_, rfl, _, _, rfl, rfl, _, rfl, ?_⟩
      by_cases c1 : k < 0
      · rw [decide_eq_true c1]
        refine iteT (iteT ⟨_, rfl, true, true, rfl, rfl, _, rfl, ?_⟩)
        rw [decide_eq_true rfl]
        refine iteT ⟨_, rfl, _, rfl, _, _, hr2.dp, hP2.dp, rfl, alike_ps ps ps, (by have := depth_ps ps; omega), ?_⟩
        rw [eqv_same (alike_ps ps ps)]
        exact kk _ ps (fun b o e _ => s2 _ _ (s1 _ _ e)) (hG1.same s2) oP rfl
      · rw [decide_eq_false c1]
        refine iteF ⟨_, rfl, _, rfl, l, _, rfl, .inl (SqL.of hL), _, _, rfl, rfl, _, rfl, ?_⟩
        have c2 : (rs.length : Int) ≤ k := by
          rw [hR.length]
          rcases hk with z | z
          · exact absurd z c1
          · exact z
        rw [decide_eq_true c2]
        refine iteT ⟨_, rfl, true, true, rfl, rfl, _, rfl, ?_⟩
        rw [decide_eq_true rfl]
        refine iteT ⟨_, rfl, _, rfl, _, _, hr2.dp, hP2.dp, rfl, alike_ps ps ps, (by have := depth_ps ps; omega), ?_⟩
        rw [eqv_same (alike_ps ps ps)]
        exact kk _ ps (fun b o e _ => s2 _ _ (s1 _ _ e)) (hG1.same s2) oP rfl
    · -- sunk
      subst hn
      have SO := sink_ok n ps hl
      have oQ : PsOk (sinkM n ps).1 := ⟨fun p hp => oP.1 p (sink_mem n ps hl p hp), by rw [sink_length]; exact oP.2⟩
      have lq := sink_length n ps
      generalize hsk : sinkM n ps = sk at SO oQ lq hG1 ha hV
      have hG1' := hG1
      obtain ⟨dx, u, hg, hu⟩ := hG1'
      refine ⟨_, rfl, g, dx, _, rfl, hg, gF_no u (by decide +kernel), g, sk.1, rfl, hG1, oQ.2, fun H2 r s2 hr2 => ?_⟩
      have hP2 := (hP.but ng0 sB).same s2
      have hP3 := hP2
      obtain ⟨l, rs, rfl, hL, hR⟩ := hP3
      have hrl : rs.length = ps.length := hR.length
      have ha2 := s2 _ _ ha
      have hlow := SO.low
      refine ⟨_, rfl, _, _, rfl, rfl, _, rfl, ?_⟩
      rw [decide_eq_false (show ¬ ((n : Int) < 0) by omega)]
      refine iteF ⟨_, rfl, _, rfl, l, _, rfl, .inl (SqL.of hL), _, _, rfl, rfl, _, rfl, ?_⟩
      rw [decide_eq_false (show ¬ ((rs.length : Int) ≤ (n : Int)) by omega)]
      refine iteF ?_
      refine ⟨_, rfl, _, _, _, _, true, rfl, .ty "tuple", .base (.tup ha2), kit_ty (by decide +kernel), _, rfl, iteF ?_⟩
      refine ⟨_, rfl, a, _, rfl, .inr (SqT.of ha2), rfl, _, rfl, iteNS rfl ?_⟩
      refine ⟨_, rfl, a, _, _, _, rfl, rfl, SqT.of ha2, rfl, ?_⟩
      refine ⟨_, rfl, _, _, _, _, true, rfl, .ty "int", .base (.int _), kit_ty (by decide +kernel), _, rfl, iteF ?_⟩
      refine ⟨_, rfl, _, _, _, _, false, rfl, .ty "bool", .base (.int _), kit_ty (by decide +kernel), _, rfl, iteF ?_⟩
      refine ⟨_, rfl, _, _, rfl, rfl, _, rfl, ?_⟩
      rw [decide_eq_false (show ¬ (((sk.2.1 : Nat) : Int) < 0) by omega)]
      refine iteF ⟨_, rfl, _, rfl, _, _, rfl, rfl, _, rfl, ?_⟩
      rw [decide_eq_false (show ¬ ((n : Int) < ((sk.2.1 : Nat) : Int)) by omega)]
      refine iteF ?_
      -- due
      have qn : ps[n]? = some (ps.getD n []) := by rw [List.getD_eq_getElem?_getD, List.getElem?_eq_getElem hl]; rfl
      obtain ⟨xn, hxn, hpn⟩ := each_get2 hR qn
      have e1 : cutV rs none (some ((sk.2.1 : Nat) : Int)) = rs.take sk.2.1 := cut_to (by omega)
      have e2 : cutV rs (some ((sk.2.1 : Nat) : Int)) (some (n : Int)) = (rs.take n).drop sk.2.1 := by
        rw [cut_mid hlow (by omega), List.drop_take]
      have e3 : cutV rs (some ((n : Int) + 1)) none = rs.drop (n + 1) := by
        rw [show ((n : Int) + 1) = ((n + 1 : Nat) : Int) by omega]
        exact cut_from (by omega)
      have l100 := oP.2
      have len1 : (rs.take sk.2.1).length ≤ 100 := by rw [List.length_take]; omega
      have len2 : ((rs.take n).drop sk.2.1).length ≤ 100 := by rw [List.length_drop, List.length_take]; omega
      have len3 : (rs.drop (n + 1)).length ≤ 100 := by rw [List.length_drop]; omega
      refine ⟨_, rfl, _, rfl, _, rfl, l, rs, rfl, SqL.of hL, fun p1 hp1 => ?_⟩
      rw [e1]
      have t1 := same_new (o := .lst (rs.take sk.2.1)) hp1
      refine ⟨_, rfl, _, rfl, l, _, _, xn, rfl, rfl, SqL.of (t1 _ _ hL), at_of rfl hxn, (by show 1 ≤ sizeLine; decide), fun p2 hp2 => ?_⟩
      have t2 := same_new (o := .lst [xn]) hp2
      refine ⟨p1, p2, _, _, rfl, rfl, t2 _ _ upd_same, upd_same, Nat.le_of_lt (line_big (by show (rs.take sk.2.1).length + 1 ≤ 200000; omega)), fun p3 hp3 => ?_⟩
      have t3 := same_new (o := .lst (rs.take sk.2.1 ++ [xn])) hp3
      have t13 := t1.trans (t2.trans t3)
      refine ⟨_, rfl, _, rfl, _, rfl, _, rfl, _, rfl, _, rfl, l, rs, rfl, SqL.of (t13 _ _ hL), fun p4 hp4 => ?_⟩
      rw [e2]
      have t4 := same_new (o := .lst ((rs.take n).drop sk.2.1)) hp4
      refine ⟨p3, p4, _, _, rfl, rfl, t4 _ _ upd_same, upd_same, Nat.le_of_lt (line_big (by rw [List.length_append, List.length_singleton]; omega)), fun p5 hp5 => ?_⟩
      have t5 := same_new (o := .lst (rs.take sk.2.1 ++ [xn] ++ (rs.take n).drop sk.2.1)) hp5
      have t15 := t13.trans (t4.trans t5)
      refine ⟨_, rfl, _, rfl, _, _, rfl, rfl, _, rfl, l, rs, rfl, SqL.of (t15 _ _ hL), fun p6 hp6 => ?_⟩
      rw [e3]
      have t6 := same_new (o := .lst (rs.drop (n + 1))) hp6
      refine ⟨p5, p6, _, _, rfl, rfl, t6 _ _ upd_same, upd_same, Nat.le_of_lt (line_big (by rw [List.length_append, List.length_append, List.length_singleton]; omega)), fun p7 hp7 => ?_⟩
      have t7 := same_new (o := .lst (rs.take sk.2.1 ++ [xn] ++ (rs.take n).drop sk.2.1 ++ rs.drop (n + 1))) hp7
      have t17 := t15.trans (t6.trans t7)
      have hat := upd_same (H := upd (upd (upd (upd (upd (upd H2 p1 (.lst (rs.take sk.2.1))) p2 (.lst [xn])) p3 (.lst (rs.take sk.2.1 ++ [xn]))) p4 (.lst ((rs.take n).drop sk.2.1))) p5 (.lst (rs.take sk.2.1 ++ [xn] ++ (rs.take n).drop sk.2.1))) p6 (.lst (rs.drop (n + 1)))) (a := p7) (o := .lst (rs.take sk.2.1 ++ [xn] ++ (rs.take n).drop sk.2.1 ++ rs.drop (n + 1)))
      generalize upd (upd (upd (upd (upd (upd (upd H2 p1 (.lst (rs.take sk.2.1))) p2 (.lst [xn])) p3 (.lst (rs.take sk.2.1 ++ [xn]))) p4 (.lst ((rs.take n).drop sk.2.1))) p5 (.lst (rs.take sk.2.1 ++ [xn] ++ (rs.take n).drop sk.2.1))) p6 (.lst (rs.drop (n + 1)))) p7 (.lst (rs.take sk.2.1 ++ [xn] ++ (rs.take n).drop sk.2.1 ++ rs.drop (n + 1))) = H7 at t17 hat ⊢
      have hDue : PanesV H7 (.ref p7) sk.1 := by
        rw [SO.rows]
        refine ⟨p7, _, rfl, hat, ?_⟩
        have h : EachIs (PaneV H2) (rs.take sk.2.1 ++ [xn] ++ (rs.take n).drop sk.2.1 ++ rs.drop (n + 1)) (movedM ps n sk.2.1) :=
          each_app (each_app (each_app (each_take _ hR) (each_one hpn)) (each_drop _ (each_take _ hR))) (each_drop _ hR)
        exact h.mono fun _ _ z => z.same t17
      refine ⟨_, rfl, _, rfl, _, _, (hr2.same t17).dp, hDue.dp, rfl, alike_ps sk.1 sk.1, (by have := depth_ps sk.1; omega), _, rfl, ?_⟩
      rw [eqv_same (alike_ps sk.1 sk.1)]
      refine iteF ?_
      -- passed
      refine ⟨_, rfl, _, rfl, _, rfl, _, rfl, a, _, _, _, rfl, rfl, SqT.of (t17 _ _ ha2), rfl, ?_⟩
      refine ⟨_, ps, n, sk, vp, rfl, hP2.same t17, oP, hl, SO, (hV.tst (tst_of s2)).tst (tst_of t17), fun H8 s8 => ⟨_, rfl, iteF ?_⟩⟩
      -- same
      have hG8 : GlassV C H8 g sk.1 := (hG1.same s2).same (t17.trans s8)
      have hG8' := hG8
      obtain ⟨dx8, u8, hg8, hu8⟩ := hG8'
      refine ⟨_, rfl, g, dx8, _, rfl, hg8, gF_no u8 (by decide +kernel), g, sk.1, rfl, hG8, oQ, fun H9 r1 s9 hr1' => ?_⟩
      refine ⟨_, rfl, _, ps, rfl, hP2.same (t17.trans (s8.trans s9)), oP.1, oP.2, fun H10 r2 s10 hr2' => ?_⟩
      have es := SO.same oP.1
      refine ⟨r1, r2, seenM ps, rfl, ?_, hr2', ?_, fun H11 s11 => ?_⟩
      · rw [← es]; exact hr1'.same s10
      · have := (seen_facts oP.1 oP.2 ps.length).2.2
        rw [List.take_length] at this
        omega
      · have sAll := s2.trans (t17.trans (s8.trans (s9.trans (s10.trans s11))))
        exact kk _ sk.1 (but_trans sB sAll) (hG1.same sAll) oQ lq
end
end GL

/-! G13: law. -/
namespace GL
open PySem PySem.Spec PyProof.Rows L2
open PySem.W (EachIs)
open C8 (pss_cut tCut)
section
variable {P : Program} {w : World} {K : PySem.W.Frag} {mg : Str → Option Value} {base : Heap}
theorem sc_law : FnScope ["_law_script", "_law_stem", "_law_many", "_law_panes", "_law_k", "_law_size", "_law_glass", "_law_cell", "_law_pane"] ["_law_script"] (defScope sLaw) := ⟨rfl, rfl, rfl, by decide +kernel, rfl, by decide +kernel, by decide +kernel⟩
theorem ok_law {f fC fZ fM fP fN fR fI fV C : Addr} {fd fdC fdZ fdM fdP fdN fdR fdI fdV : FuncData} (F : Fun K "law" "law" sLaw f fd) (T : Txt mg) (GT : GTxt K C) (gG : mg "Glass" = some (.ref C))
    (FC : Fun K "_law_cell_at" "_law_cell_at" sCellAt fC fdC) (bC : Binds K fdC ["_law_script", "_law_k"] []) (gC : mg "_law_cell_at" = some (.ref fC))
    (FZ : Fun K "_law_cells" "_law_cells" sCells fZ fdZ) (bZ : Binds K fdZ ["_law_script", "_law_first", "_law_step", "_law_many"] []) (gZ : mg "_law_cells" = some (.ref fZ))
    (FM : Fun K "_law_mixed" "_law_mixed" sMixed fM fdM) (bM : Binds K fdM ["_law_cell", "_law_turn", "_law_many"] []) (gM : mg "_law_mixed" = some (.ref fM))
    (FP : Fun K "_law_pane_by" "_law_pane_by" sPaneBy fP fdP) (bP : Binds K fdP ["_law_cells_here", "_law_stem"] []) (gP : mg "_law_pane_by" = some (.ref fP)) (GP : FnOk P w K mg base CX0 3 fP fdP ["_law_cells_here", "_law_stem"] spPaneBy)
    (FN : Fun K "_law_number" "_law_number" sNumber fN fdN) (bN : Binds K fdN ["_law_cell", "_law_many"] []) (gN : mg "_law_number" = some (.ref fN))
    (FR : Fun K "_law_right" "_law_right" sRight fR fdR) (bR : Binds K fdR ["_law_glass", "_law_panes", "_law_k"] []) (gR : mg "_law_right" = some (.ref fR)) (GR : FnOk P w K mg base CX0 7 fR fdR ["_law_glass", "_law_panes", "_law_k"] (spRight C))
    (MI : Mk K C fI) (bI : Binds K fdI ["self", "panes"] []) (GI : FnOk P w K mg base CX0 1 fI fdI ["self", "panes"] (spGInit C))
    (mV : Meth K C "panes" fV) (bV : Binds K fdV ["self"] []) (GV : FnOk P w K mg base CX0 1 fV fdV ["self"] (spGPanes C)) :
    FnOk P w K mg base CX0 8 f fd ["_law_script"] (spLaw K) := by
  have GC : FnOk P w K mg base CX0 1 fC fdC ["_law_script", "_law_k"] (spCellAt K) := ok_cell_at FC T
  have GZ : FnOk P w K mg base CX0 2 fZ fdZ ["_law_script", "_law_first", "_law_step", "_law_many"] (spCells K) := ok_cells FZ T FC bC gC
  have GM : FnOk P w K mg base CX0 1 fM fdM ["_law_cell", "_law_turn", "_law_many"] spMixed := ok_mixed FM
  have GN : FnOk P w K mg base CX0 2 fN fdN ["_law_cell", "_law_many"] spNumber := ok_number FN FM bM gM
  refine F.ok sc_law (fun vs H Q E h => ?_) (fun cdv A outer s H vs Q E hr h => ?_)
  · obtain ⟨a, ns, rfl, _⟩ := h
    rfl
  · obtain ⟨a, ns, rfl, hS, hl, kk⟩ := h
    have hr1 : Room 1 _ := hr.mono (by decide)
    have hr2 : Room 2 _ := hr.mono (by decide)
    have hr3 : Room 3 _ := hr.mono (by decide)
    refine ⟨_, pss_cons (ps_set (i := 1) sc_law.nd rfl (Or.inl rfl) (pe_op op_mod (pe_call GC hr1 rfl gC FC.kp bC .nil pass0 (pa_cons (pv 0) (pa_cons pe_int pa_nil))) (pe_op op_pow pe_int pe_int)))
      (pss_cons (ps_set (i := 2) sc_law.nd rfl (Or.inl rfl) (pe_op op_mod (pe_call GC hr1 rfl gC FC.kp bC .nil pass0 (pa_cons (pv 0) (pa_cons pe_int pa_nil))) pe_int))
      (pss_cut (ps_if (pt_cmpR op_eq (pe_op op_mod (pe_op op_fdiv (pe_call GC hr1 rfl gC FC.kp bC .nil pass0 (pa_cons (pv 0) (pa_cons pe_int pa_nil))) pe_int) pe_int) pe_int (nomark _)) (pss_one (ps_set (i := 2) sc_law.nd rfl (Or.inl rfl) pe_int)) pss_nil)
      (pss_cons (ps_set (i := 3) sc_law.nd rfl (Or.inl rfl) (pe_lst pa_nil))
      (pss_cons (ps_for PassesOwn.never rfl (pi_range1 rfl T.range (pa_cons (pv 2) pa_nil)) (pg_name (i := 4) sc_law.nd rfl (Or.inl rfl))
        (pss_cons (ps_set (i := 5) sc_law.nd rfl (Or.inl rfl) (pe_call GM hr1 rfl gM FM.kp bM .nil pass0 (pa_cons (pe_op op_add (pe_call GC hr1 rfl gC FC.kp bC .nil pass0 (pa_cons (pv 0) (pa_cons pe_int pa_nil))) (pv 4)) (pa_cons pe_int (pa_cons pe_int pa_nil)))))
        (pss_one (ps_expr (pe_bm PySem.F.plainAttrs_list PySem.F.slot_list_append PySem.F.type_list_append mt_append (pv 3) (pa_cons (pe_call GP hr3 rfl gP FP.kp bP .nil pass0 (pa_cons (pe_call GZ hr2 rfl gZ FZ.kp bZ .nil pass0 (pa_cons (pv 0) (pa_cons (pe_op op_add pe_int (pv 4)) (pa_cons (pv 2) (pa_cons (pv 5) pa_nil))))) (pa_cons (pv 1) pa_nil))) pa_nil))))))
      (pss_cons (ps_set (i := 6) sc_law.nd rfl (Or.inl rfl) (pe_make MI GI hr2 rfl gG bI .nil pass0 (pa_cons (pe_lc (own := [("_law_pane", 8)]) (g := gName 8) (tt := tYes) (by rfl) sc_law.nd (pi_list (pv 3)) (blkOk_by (own := [("_law_pane", 8)]) (N := ["_law_script", "_law_stem", "_law_many", "_law_panes", "_law_k", "_law_size", "_law_glass", "_law_cell", "_law_pane"]) (sc := defScope sLaw) (by decide +kernel))
          (fun _ _ _ _ _ => pg_name (i := 8) sc_law.nd rfl (Or.inl rfl)) (fun _ _ _ _ _ => pts_nil) (fun _ _ _ _ _ => pe_callTy (call_listOf (K := K) rfl) (by rfl) T.list (by decide +kernel) (pa_cons (pv 8) pa_nil))) pa_nil)))
      (pss_cons (ps_for PassesOwn.never rfl (pi_list (pe_call GZ hr2 rfl gZ FZ.kp bZ .nil pass0 (pa_cons (pv 0) (pa_cons pe_int (pa_cons pe_int (pa_cons (pe_callB (call_max2 rfl) (by rfl) T.max (by decide +kernel) (pa_cons pe_int (pa_cons (pe_callB (call_min2 rfl) (by rfl) T.min (by decide +kernel) (pa_cons pe_int (pa_cons (pe_op op_sub (pe_callB call_len_seq (by rfl) T.len PySem.boot_len (pa_cons (pv 0) pa_nil)) pe_int) pa_nil))) pa_nil))) pa_nil)))))) (pg_name (i := 7) sc_law.nd rfl (Or.inl rfl))
        (pss_cons (ps_set (i := 4) sc_law.nd rfl (Or.inl rfl) (pe_call GN hr2 rfl gN FN.kp bN .nil pass0 (pa_cons (pv 7) (pa_cons (pe_callB call_len_seq (by rfl) T.len PySem.boot_len (pa_cons (pv 3) pa_nil)) pa_nil))))
        (pss_cons (ps_if (pt_not (pt_val (pe_call GR hr rfl gR FR.kp bR .nil pass0 (pa_cons (pv 6) (pa_cons (pv 3) (pa_cons (pv 4) pa_nil)))))) (pss_one (ps_ret pe_bl)) pss_nil)
        (pss_one (ps_set (i := 3) sc_law.nd rfl (Or.inl rfl) (pe_meth0 (pv 6) GT.cl mV GV hr1 bV .nil pass0))))))
      (pss_one (ps_ret pe_bl)))))))), ?_⟩
    have hp12 : (0 : Int) < 10 ^ (12 : Int).toNat := by decide
    refine ⟨_, rfl, a, ns, _, rfl, hS, hl, by decide, fun z0 => ⟨_, _, rfl, rfl, ⟨by decide, by decide, by decide⟩, _, _, rfl, rfl, hp12, ?_⟩⟩
    have hst : 0 ≤ z0 % (10 : Int) ^ (12 : Int).toNat := Int.emod_nonneg _ (by omega)
    generalize hse : z0 % (10 : Int) ^ (12 : Int).toNat = stm at hst
    refine ⟨_, rfl, a, ns, _, rfl, hS, hl, by decide, fun z1 => ⟨_, _, rfl, rfl, (by show (0 : Int) < 6; decide), ?_⟩⟩
    have hm0 : 0 ≤ z1 % 6 := Int.emod_nonneg _ (by decide)
    have hm6 : z1 % 6 < 6 := Int.emod_lt_of_pos _ (by decide)
    -- perhaps twelve
    refine ⟨fun σ' H' => ∃ m : Int, σ' = [some (.ref a), some (.int stm), some (.int m), none, none, none, none, none, none] ∧ H' = H ∧ 0 ≤ m ∧ m ≤ 12, ?_, ?_⟩
    · refine ⟨_, rfl, a, ns, _, rfl, hS, hl, by decide, fun z2 => ⟨_, _, rfl, rfl, ⟨by decide, by decide⟩, _, _, rfl, rfl, (by show (0 : Int) < 8; decide), rfl, _, rfl, ?_⟩⟩
      refine ite2 (fun _ => ?_) (fun _ => ?_)
      · exact ⟨12, by rw [← hse]; rfl, rfl, by decide, by decide⟩
      · exact ⟨_, by rw [← hse]; rfl, rfl, hm0, by omega⟩
    · rintro σ1 H1 ⟨m, rfl, rfl, hm0, hm12⟩
      refine ⟨Nat.zero_le _, fun r hr0 => ?_⟩
      have s0 := same_new (o := .lst []) hr0
      refine ⟨_, rfl, m, rfl, by omega, by omega, for_range (lo := 0) (n := m.toNat) (fun i σ H' => ∃ (v4 v5 : Option V) (vs : List V) (ps : List (List Ent)), σ = [some (.ref a), some (.int stm), some (.int m), some (.ref r), v4, v5, none, none, none] ∧ Same H1 H' ∧ H' r = some (.lst vs) ∧ EachIs (fun v es => PaneV H' v es ∧ v ≠ .ref r) vs ps ∧ (∀ p ∈ ps, PaneOk p) ∧ ps.length = i)
        ⟨none, none, [], [], rfl, s0, upd_same, .nil, by simp, rfl⟩ ?_ ?_⟩
      · rintro i σ H2 hi ⟨v4, v5, vs, ps, rfl, s2, hR, hE, oP, lP⟩
        have hi12 : i < 12 := by omega
        refine ⟨_, rfl, a, ns, _, rfl, s2.seq hS, hl, by decide, fun z3 => ⟨_, rfl, _, _, rfl, rfl, _, _, _, rfl, (by show (0 : Int) < 5; decide), fun H3 sz s3 h0 h5 => ?_⟩⟩
        have hR3 := s3 _ _ hR
        have s03 := s2.trans s3
        refine ⟨_, rfl, .inl ⟨rfl, _, SqL.of hR3⟩, _, rfl, _, rfl, _, _, rfl, rfl, _, rfl, _, rfl, ?_⟩
        refine ⟨a, ns, _, _, _, rfl, s03.seq hS, hl, by omega, hm0, by omega, h0, by omega, fun H4 p zs s4 hp hz => ?_⟩
        refine ⟨_, rfl, p, zs, stm, rfl, hp, by omega, hst, fun H5 q es s5 hq hv ok => ?_⟩
        have hR4 := s4 _ _ hR3
        have hR5 := s5 _ _ hR4
        have nq : q ≠ r := fun z => by rw [z, hR4] at hq; cases hq
        have hvl : vs.length ≤ 12 := by rw [hE.length]; omega
        refine ⟨r, vs, _, rfl, rfl, hR5, line_big (by omega), ?_⟩
        have t : Tst H5 (upd H5 r (.lst (vs ++ [.ref q]))) := tst_lst hR5
        have s35 := s3.trans (s4.trans s5)
        have up : ∀ {v : V} {es : List Ent}, PaneV H5 v es → v ≠ .ref r → PaneV (upd H5 r (.lst (vs ++ [.ref q]))) v es ∧ v ≠ .ref r := fun {v es} z1 z2 =>
          ⟨z1.keep (fun l xs e hl => by rw [upd_ne (fun w => z2 (by rw [e, w]))]; exact hl) t, z2⟩
        refine ⟨_, _, vs ++ [.ref q], ps ++ [es], rfl, same_upd (s2.trans s35) hr0, upd_same, ?_, ?_, ?_⟩
        · exact each_app (hE.mono fun v es ⟨z1, z2⟩ => up (z1.same s35) z2) (each_one (up hv fun z => nq (by injection z)))
        · intro p hp'
          rcases List.mem_append.mp hp' with h | h
          · exact oP p h
          · rw [List.mem_singleton.mp h]; exact ok
        · rw [List.length_append, lP]; rfl
      · rintro σ H2 ⟨v4, v5, vs, ps, rfl, s2, hR, hE, oP, lP⟩
        have lP12 : ps.length ≤ 100 := by omega
        have hR1 : EachIs (PaneV H2) vs ps := hE.mono fun _ _ z => z.1
        -- the glass
        refine ⟨_, rfl, r, rfl, ⟨_, SqL.of hR⟩, fun D hD => lc_copy (n := 8) (by show (8 : Nat) < 9; decide) hR hR1 hD lP12 fun H3 ws s3 hW hP3 => ?_⟩
        intro g dx hg hdx hne
        have hPs : PanesV H3 (.ref D) ps := ⟨D, ws, rfl, hW, hP3.mono fun _ _ z => z.1⟩
        have hPr : PanesV H3 (.ref r) ps := PanesV.same ⟨r, vs, rfl, hR, hR1⟩ s3
        have s4 : Same H3 (upd (upd H3 dx (.own g)) g (.ins C dx [])) := (same_new hdx).trans (same_new (by rw [upd_ne (Ne.symm hne)]; exact hg))
        refine ⟨g, dx, _, ps, rfl, upd_same, hPs.same s4, lP12, fun H5 kp hG => ⟨rfl, ?_⟩⟩
        have s5 : Same H3 H5 := fun b o e => kp b o (s4 b o e) (ne_of_none e hg)
        have hPr5 := hPr.same s5
        have hS5 : SqL K H5 a (ns.map V.int) := (s2.trans (s3.trans s5)).seq hS
        refine ⟨_, rfl, _, rfl, a, _, rfl, .inl hS5, _, _, rfl, rfl, _, _, rfl, _, _, rfl, ?_⟩
        rw [List.length_map]
        refine ⟨a, ns, _, _, _, rfl, hS5, hl, by decide, by decide, by decide, ?_, ?_, fun H6 p zs s6 hp _ => ?_⟩
        · split <;> split <;> omega
        · split <;> split <;> omega
        refine ⟨p, rfl, ⟨_, SqL.of hp⟩, for_list (K := K) (a := p) (xs := zs.map V.int) (fun i σ H' => ∃ (v4 : Option V) (v : V) (v7 : Option V) (qs : List (List Ent)), σ = [some (.ref a), some (.int stm), some (.int m), some v, v4, v5, some (.ref g), v7, none] ∧ H' p = some (.lst (zs.map V.int)) ∧ GlassV C H' g qs ∧ PanesV H' v qs ∧ PsOk qs)
          ⟨v4, .ref r, none, ps, rfl, hp, hG.same s6, hPr5.same s6, oP, lP12⟩ (fun i σ H' _ ⟨_, _, _, _, _, z, _⟩ => SqL.of z) ?_ ?_⟩
        · rintro i y σ H7 hi ⟨v4, v, v7, qs, rfl, hp7, hG7, hV7, oQ⟩
          obtain ⟨cz, rfl⟩ : ∃ z : Int, y = .int z := by
            rw [List.getElem?_map] at hi
            cases e : zs[i]? with
            | none => rw [e] at hi; cases hi
            | some z => rw [e] at hi; exact ⟨z, (Option.some.inj hi).symm⟩
          have hV7' := hV7
          obtain ⟨l, rs, rfl, hL, hRs⟩ := hV7'
          refine ⟨_, rfl, _, rfl, l, _, rfl, .inl (SqL.of hL), cz, _, rfl, by omega, fun H8 z s8 => ?_⟩
          have hG8 := hG7.same s8
          have hG8' := hG8
          obtain ⟨dx8, u8, hg8, hu8⟩ := hG8'
          refine ⟨_, rfl, _, rfl, _, rfl, g, _, qs, z, rfl, hG8, hV7.same s8, oQ, fun H9 qs' sB hG9 oQ' lq => ⟨_, rfl, iteF ?_⟩⟩
          have npg : p ≠ g := ne_of (s8 _ _ hp7) hg8 (by intro q; cases q)
          have hp9 := sB _ _ (s8 _ _ hp7) npg
          have hG9' := hG9
          obtain ⟨dx9, u9, hg9, hu9⟩ := hG9'
          refine ⟨_, rfl, g, dx9, _, rfl, hg9, gF_no u9 (by decide +kernel), g, qs', rfl, hG9, oQ'.2, fun H10 r2 s10 hr2 => ?_⟩
          exact ⟨_, r2, _, qs', rfl, s10 _ _ hp9, hG9.same s10, hr2, oQ'⟩
        · rintro σ H7 ⟨v4, v, v7, qs, rfl, _, _, _, _⟩
          exact kk _
end
end GL

/-! G14: all the facts together, the end. -/
namespace GL
open PySem PySem.Spec PyProof.Rows L2
open PySem.W (EachIs)
theorem kit_own {K : PySem.W.Frag} {t : Value} {C : Addr} {b : Bool} (hs : PySem.W.subIn K t t = some true) (hc : PySem.W.isClsIn K C = true) (ht : PySem.W.typeIn K (.ref C) = some (.type "type")) (h4 : PySem.W.subIn K t (.ref C) = some b) : PySem.W.kitOne K t (.ref C) = some b := by
  unfold PySem.W.kitOne
  by_cases e : (t == .ref C) = true
  · rw [if_pos e]
    have q : t = .ref C := beq_iff_eq.mp e
    rw [← q, hs] at h4
    exact h4
  · rw [if_neg e]
    have hc' : (PySem.W.clsIn K C).isSome = true := hc
    have e2 : ((PySem.W.clsIn K C).isSome && PySem.W.typeIn K (.ref C) == some (.type "type")) = true := by rw [hc', ht] <;> rfl
    show (if ((PySem.W.clsIn K C).isSome && PySem.W.typeIn K (.ref C) == some (.type "type")) = true then PySem.W.subIn K t (.ref C) else none) = some b
    rw [if_pos e2]
    exact h4
theorem kit_no {K : PySem.W.Frag} {t : Value} {C : Addr} {cs : List Value} (h : PySem.W.kitOne K t (.ref C) = some false) (r : PySem.W.kitAny K t cs = some false) : PySem.W.kitAny K t (.ref C :: cs) = some false := kitAny_cons h (fun _ => r) (fun z => by cases z)
theorem all_mk {l : PySem.W.OpenLaw} {w : World} {K : PySem.W.Frag} {h : Heap} {mg : Str → Option Value} {fa C CN CG c1 c2 c3 c4 c5 d1 d2 d3 d4 d5 f0 f1 f2 f3 f4 f5 f6 f7 f8 f9 f10 f11 f12 f13 f14 f15 f16 f17 f18 f19 f20 f21 f22 f23 f24 f50 f51 f52 f53 : Addr} (X : K.In h) (G : h.Ns mainGlobals mg) (hfa : mg "law" = some (.ref fa))
    {od0 an0 od1 an1 od2 an2 od3 an3 od4 an4 od5 an5 od6 an6 od7 an7 od8 an8 od9 an9 od10 an10 od11 an11 od12 an12 od13 an13 od14 an14 od15 an15 od16 an16 od17 an17 od18 an18 od19 an19 od20 an20 od21 an21 od22 an22 od23 an23 od24 an24 od50 an50 od51 an51 od52 an52 od53 an53 : Option Addr} {sl0 sl1 sl2 sl3 sl4 sl5 sl6 sl7 sl8 sl9 sl10 sl11 sl12 sl13 sl14 sl15 sl16 sl17 sl18 sl19 sl20 sl21 sl22 sl23 sl24 sl50 sl51 sl52 sl53 : Array (Option Value)} {oc0 kV0 dc0 pm0 cd0 ct0 oc1 kV1 dc1 pm1 cd1 ct1 oc2 kV2 dc2 pm2 cd2 ct2 oc3 kV3 dc3 pm3 cd3 ct3 oc4 kV4 dc4 pm4 cd4 ct4 oc5 kV5 dc5 pm5 cd5 ct5 oc6 kV6 dc6 pm6 cd6 ct6 oc7 kV7 dc7 pm7 cd7 ct7 oc8 kV8 dc8 pm8 cd8 ct8 oc9 kV9 dc9 pm9 cd9 ct9 oc10 kV10 dc10 pm10 cd10 ct10 oc11 kV11 dc11 pm11 cd11 ct11 oc12 kV12 dc12 pm12 cd12 ct12 oc13 kV13 dc13 pm13 cd13 ct13 oc14 kV14 dc14 pm14 cd14 ct14 oc15 kV15 dc15 pm15 cd15 ct15 oc16 kV16 dc16 pm16 cd16 ct16 oc17 kV17 dc17 pm17 cd17 ct17 oc18 kV18 dc18 pm18 cd18 ct18 oc19 kV19 dc19 pm19 cd19 ct19 oc20 kV20 dc20 pm20 cd20 ct20 oc21 kV21 dc21 pm21 cd21 ct21 oc22 kV22 dc22 pm22 cd22 ct22 oc23 kV23 dc23 pm23 cd23 ct23 oc24 kV24 dc24 pm24 cd24 ct24 oc50 kV50 dc50 pm50 cd50 ct50 oc51 kV51 dc51 pm51 cd51 ct51 oc52 kV52 dc52 pm52 cd52 ct52 oc53 kV53 dc53 pm53 cd53 ct53 : Value} {tFi tLi tFo tGo tSh : Tok}
    (a0 : PySem.W.nsIn K mainGlobals "by_way" = some (some (.ref f0)))
    (l0 : K.lookup f0 = some ⟨oc0, od0, .func (PySem.W.fnOf "by_way" "by_way" (defArgs sByWay) (defBody sByWay) (defScope sByWay) .none kV0 dc0 pm0 an0 cd0 ct0), sl0⟩)
    (e0 : PySem.W.codeIn K cd0 "by_way" = true)
    (k0 : PySem.W.keepIn K (.ref f0) = true)
    (a1 : PySem.W.nsIn K mainGlobals "covered" = some (some (.ref f1)))
    (l1 : K.lookup f1 = some ⟨oc1, od1, .func (PySem.W.fnOf "covered" "covered" (defArgs sCovered) (defBody sCovered) (defScope sCovered) .none kV1 dc1 pm1 an1 cd1 ct1), sl1⟩)
    (e1 : PySem.W.codeIn K cd1 "covered" = true)
    (k1 : PySem.W.keepIn K (.ref f1) = true)
    (a2 : PySem.W.nsIn K mainGlobals "shown_entry" = some (some (.ref f2)))
    (l2 : K.lookup f2 = some ⟨oc2, od2, .func (PySem.W.fnOf "shown_entry" "shown_entry" (defArgs sShownEntry) (defBody sShownEntry) (defScope sShownEntry) .none kV2 dc2 pm2 an2 cd2 ct2), sl2⟩)
    (e2 : PySem.W.codeIn K cd2 "shown_entry" = true)
    (k2 : PySem.W.keepIn K (.ref f2) = true)
    (a3 : PySem.W.nsIn K mainGlobals "laid" = some (some (.ref f3)))
    (l3 : K.lookup f3 = some ⟨oc3, od3, .func (PySem.W.fnOf "laid" "laid" (defArgs sLaid) (defBody sLaid) (defScope sLaid) .none kV3 dc3 pm3 an3 cd3 ct3), sl3⟩)
    (e3 : PySem.W.codeIn K cd3 "laid" = true)
    (k3 : PySem.W.keepIn K (.ref f3) = true)
    (a4 : PySem.W.nsIn K mainGlobals "seen" = some (some (.ref f4)))
    (l4 : K.lookup f4 = some ⟨oc4, od4, .func (PySem.W.fnOf "seen" "seen" (defArgs sSeen) (defBody sSeen) (defScope sSeen) .none kV4 dc4 pm4 an4 cd4 ct4), sl4⟩)
    (e4 : PySem.W.codeIn K cd4 "seen" = true)
    (k4 : PySem.W.keepIn K (.ref f4) = true)
    (a5 : PySem.W.nsIn K mainGlobals "joins" = some (some (.ref f5)))
    (l5 : K.lookup f5 = some ⟨oc5, od5, .func (PySem.W.fnOf "joins" "joins" (defArgs sJoins) (defBody sJoins) (defScope sJoins) .none kV5 dc5 pm5 an5 cd5 ct5), sl5⟩)
    (e5 : PySem.W.codeIn K cd5 "joins" = true)
    (k5 : PySem.W.keepIn K (.ref f5) = true)
    (a6 : PySem.W.nsIn K mainGlobals "shut_above" = some (some (.ref f6)))
    (l6 : K.lookup f6 = some ⟨oc6, od6, .func (PySem.W.fnOf "shut_above" "shut_above" (defArgs sShutAbove) (defBody sShutAbove) (defScope sShutAbove) .none kV6 dc6 pm6 an6 cd6 ct6), sl6⟩)
    (e6 : PySem.W.codeIn K cd6 "shut_above" = true)
    (k6 : PySem.W.keepIn K (.ref f6) = true)
    (a7 : PySem.W.nsIn K mainGlobals "hung_at" = some (some (.ref f7)))
    (l7 : K.lookup f7 = some ⟨oc7, od7, .func (PySem.W.fnOf "hung_at" "hung_at" (defArgs sHungAt) (defBody sHungAt) (defScope sHungAt) .none kV7 dc7 pm7 an7 cd7 ct7), sl7⟩)
    (e7 : PySem.W.codeIn K cd7 "hung_at" = true)
    (k7 : PySem.W.keepIn K (.ref f7) = true)
    (a8 : PySem.W.nsIn K mainGlobals "meet" = some (some (.ref f8)))
    (l8 : K.lookup f8 = some ⟨oc8, od8, .func (PySem.W.fnOf "meet" "meet" (defArgs sMeet) (defBody sMeet) (defScope sMeet) .none kV8 dc8 pm8 an8 cd8 ct8), sl8⟩)
    (e8 : PySem.W.codeIn K cd8 "meet" = true)
    (k8 : PySem.W.keepIn K (.ref f8) = true)
    (a9 : PySem.W.nsIn K mainGlobals "sunk" = some (some (.ref f9)))
    (l9 : K.lookup f9 = some ⟨oc9, od9, .func (PySem.W.fnOf "sunk" "sunk" (defArgs sSunk) (defBody sSunk) (defScope sSunk) .none kV9 dc9 pm9 an9 cd9 ct9), sl9⟩)
    (e9 : PySem.W.codeIn K cd9 "sunk" = true)
    (k9 : PySem.W.keepIn K (.ref f9) = true)
    (a10 : PySem.W.nsIn K mainGlobals "_law_cell_at" = some (some (.ref f10)))
    (l10 : K.lookup f10 = some ⟨oc10, od10, .func (PySem.W.fnOf "_law_cell_at" "_law_cell_at" (defArgs sCellAt) (defBody sCellAt) (defScope sCellAt) .none kV10 dc10 pm10 an10 cd10 ct10), sl10⟩)
    (e10 : PySem.W.codeIn K cd10 "_law_cell_at" = true)
    (k10 : PySem.W.keepIn K (.ref f10) = true)
    (a11 : PySem.W.nsIn K mainGlobals "_law_cells" = some (some (.ref f11)))
    (l11 : K.lookup f11 = some ⟨oc11, od11, .func (PySem.W.fnOf "_law_cells" "_law_cells" (defArgs sCells) (defBody sCells) (defScope sCells) .none kV11 dc11 pm11 an11 cd11 ct11), sl11⟩)
    (e11 : PySem.W.codeIn K cd11 "_law_cells" = true)
    (k11 : PySem.W.keepIn K (.ref f11) = true)
    (a12 : PySem.W.nsIn K mainGlobals "_law_mixed" = some (some (.ref f12)))
    (l12 : K.lookup f12 = some ⟨oc12, od12, .func (PySem.W.fnOf "_law_mixed" "_law_mixed" (defArgs sMixed) (defBody sMixed) (defScope sMixed) .none kV12 dc12 pm12 an12 cd12 ct12), sl12⟩)
    (e12 : PySem.W.codeIn K cd12 "_law_mixed" = true)
    (k12 : PySem.W.keepIn K (.ref f12) = true)
    (a13 : PySem.W.nsIn K mainGlobals "_law_name_by" = some (some (.ref f13)))
    (l13 : K.lookup f13 = some ⟨oc13, od13, .func (PySem.W.fnOf "_law_name_by" "_law_name_by" (defArgs sNameBy) (defBody sNameBy) (defScope sNameBy) .none kV13 dc13 pm13 an13 cd13 ct13), sl13⟩)
    (e13 : PySem.W.codeIn K cd13 "_law_name_by" = true)
    (k13 : PySem.W.keepIn K (.ref f13) = true)
    (a14 : PySem.W.nsIn K mainGlobals "_law_text_by" = some (some (.ref f14)))
    (l14 : K.lookup f14 = some ⟨oc14, od14, .func (PySem.W.fnOf "_law_text_by" "_law_text_by" (defArgs sTextBy) (defBody sTextBy) (defScope sTextBy) .none kV14 dc14 pm14 an14 cd14 ct14), sl14⟩)
    (e14 : PySem.W.codeIn K cd14 "_law_text_by" = true)
    (k14 : PySem.W.keepIn K (.ref f14) = true)
    (a15 : PySem.W.nsIn K mainGlobals "_law_under_shut" = some (some (.ref f15)))
    (l15 : K.lookup f15 = some ⟨oc15, od15, .func (PySem.W.fnOf "_law_under_shut" "_law_under_shut" (defArgs sUnderShut) (defBody sUnderShut) (defScope sUnderShut) .none kV15 dc15 pm15 an15 cd15 ct15), sl15⟩)
    (e15 : PySem.W.codeIn K cd15 "_law_under_shut" = true)
    (k15 : PySem.W.keepIn K (.ref f15) = true)
    (a16 : PySem.W.nsIn K mainGlobals "_law_pane_by" = some (some (.ref f16)))
    (l16 : K.lookup f16 = some ⟨oc16, od16, .func (PySem.W.fnOf "_law_pane_by" "_law_pane_by" (defArgs sPaneBy) (defBody sPaneBy) (defScope sPaneBy) .none kV16 dc16 pm16 an16 cd16 ct16), sl16⟩)
    (e16 : PySem.W.codeIn K cd16 "_law_pane_by" = true)
    (k16 : PySem.W.keepIn K (.ref f16) = true)
    (a17 : PySem.W.nsIn K mainGlobals "_law_laid" = some (some (.ref f17)))
    (l17 : K.lookup f17 = some ⟨oc17, od17, .func (PySem.W.fnOf "_law_laid" "_law_laid" (defArgs sLLaid) (defBody sLLaid) (defScope sLLaid) .none kV17 dc17 pm17 an17 cd17 ct17), sl17⟩)
    (e17 : PySem.W.codeIn K cd17 "_law_laid" = true)
    (k17 : PySem.W.keepIn K (.ref f17) = true)
    (a18 : PySem.W.nsIn K mainGlobals "_law_same" = some (some (.ref f18)))
    (l18 : K.lookup f18 = some ⟨oc18, od18, .func (PySem.W.fnOf "_law_same" "_law_same" (defArgs sLSame) (defBody sLSame) (defScope sLSame) .none kV18 dc18 pm18 an18 cd18 ct18), sl18⟩)
    (e18 : PySem.W.codeIn K cd18 "_law_same" = true)
    (k18 : PySem.W.keepIn K (.ref f18) = true)
    (a19 : PySem.W.nsIn K mainGlobals "_law_sunk" = some (some (.ref f19)))
    (l19 : K.lookup f19 = some ⟨oc19, od19, .func (PySem.W.fnOf "_law_sunk" "_law_sunk" (defArgs sLSunk) (defBody sLSunk) (defScope sLSunk) .none kV19 dc19 pm19 an19 cd19 ct19), sl19⟩)
    (e19 : PySem.W.codeIn K cd19 "_law_sunk" = true)
    (k19 : PySem.W.keepIn K (.ref f19) = true)
    (a20 : PySem.W.nsIn K mainGlobals "_law_seen" = some (some (.ref f20)))
    (l20 : K.lookup f20 = some ⟨oc20, od20, .func (PySem.W.fnOf "_law_seen" "_law_seen" (defArgs sLSeen) (defBody sLSeen) (defScope sLSeen) .none kV20 dc20 pm20 an20 cd20 ct20), sl20⟩)
    (e20 : PySem.W.codeIn K cd20 "_law_seen" = true)
    (k20 : PySem.W.keepIn K (.ref f20) = true)
    (a21 : PySem.W.nsIn K mainGlobals "_law_number" = some (some (.ref f21)))
    (l21 : K.lookup f21 = some ⟨oc21, od21, .func (PySem.W.fnOf "_law_number" "_law_number" (defArgs sNumber) (defBody sNumber) (defScope sNumber) .none kV21 dc21 pm21 an21 cd21 ct21), sl21⟩)
    (e21 : PySem.W.codeIn K cd21 "_law_number" = true)
    (k21 : PySem.W.keepIn K (.ref f21) = true)
    (a22 : PySem.W.nsIn K mainGlobals "_law_passed" = some (some (.ref f22)))
    (l22 : K.lookup f22 = some ⟨oc22, od22, .func (PySem.W.fnOf "_law_passed" "_law_passed" (defArgs sPassed) (defBody sPassed) (defScope sPassed) .none kV22 dc22 pm22 an22 cd22 ct22), sl22⟩)
    (e22 : PySem.W.codeIn K cd22 "_law_passed" = true)
    (k22 : PySem.W.keepIn K (.ref f22) = true)
    (a23 : PySem.W.nsIn K mainGlobals "_law_right" = some (some (.ref f23)))
    (l23 : K.lookup f23 = some ⟨oc23, od23, .func (PySem.W.fnOf "_law_right" "_law_right" (defArgs sRight) (defBody sRight) (defScope sRight) .none kV23 dc23 pm23 an23 cd23 ct23), sl23⟩)
    (e23 : PySem.W.codeIn K cd23 "_law_right" = true)
    (k23 : PySem.W.keepIn K (.ref f23) = true)
    (a24 : PySem.W.nsIn K mainGlobals "law" = some (some (.ref f24)))
    (l24 : K.lookup f24 = some ⟨oc24, od24, .func (PySem.W.fnOf "law" "law" (defArgs sLaw) (defBody sLaw) (defScope sLaw) .none kV24 dc24 pm24 an24 cd24 ct24), sl24⟩)
    (e24 : PySem.W.codeIn K cd24 "law" = true)
    (k24 : PySem.W.keepIn K (.ref f24) = true)
    (aSL : PySem.W.nsIn K mainGlobals "seen_laying" = some (some (.ref f4)))
    (aG : PySem.W.nsIn K mainGlobals "Glass" = some (some (.ref C)))
    (a50 : PySem.W.findIn K (.ref C) "__init__" = some (some (.ref f50)))
    (i50 : PySem.W.isFn K (.ref f50) = true)
    (l50 : K.lookup f50 = some ⟨oc50, od50, .func (PySem.W.fnOf "__init__" "Glass.__init__" (defArgs sGInit) (defBody sGInit) (defScope sGInit) .none kV50 dc50 pm50 an50 cd50 ct50), sl50⟩)
    (e50 : PySem.W.codeIn K cd50 "Glass.__init__" = true)
    (k50 : PySem.W.keepIn K (.ref f50) = true)
    (a51 : PySem.W.findIn K (.ref C) "seen" = some (some (.ref f51)))
    (i51 : PySem.W.isFn K (.ref f51) = true)
    (l51 : K.lookup f51 = some ⟨oc51, od51, .func (PySem.W.fnOf "seen" "Glass.seen" (defArgs sGSeen) (defBody sGSeen) (defScope sGSeen) .none kV51 dc51 pm51 an51 cd51 ct51), sl51⟩)
    (e51 : PySem.W.codeIn K cd51 "Glass.seen" = true)
    (k51 : PySem.W.keepIn K (.ref f51) = true)
    (a52 : PySem.W.findIn K (.ref C) "panes" = some (some (.ref f52)))
    (i52 : PySem.W.isFn K (.ref f52) = true)
    (l52 : K.lookup f52 = some ⟨oc52, od52, .func (PySem.W.fnOf "panes" "Glass.panes" (defArgs sGPanes) (defBody sGPanes) (defScope sGPanes) .none kV52 dc52 pm52 an52 cd52 ct52), sl52⟩)
    (e52 : PySem.W.codeIn K cd52 "Glass.panes" = true)
    (k52 : PySem.W.keepIn K (.ref f52) = true)
    (a53 : PySem.W.findIn K (.ref C) "sink" = some (some (.ref f53)))
    (i53 : PySem.W.isFn K (.ref f53) = true)
    (l53 : K.lookup f53 = some ⟨oc53, od53, .func (PySem.W.fnOf "sink" "Glass.sink" (defArgs sGSink) (defBody sGSink) (defScope sGSink) .none kV53 dc53 pm53 an53 cd53 ct53), sl53⟩)
    (e53 : PySem.W.codeIn K cd53 "Glass.sink" = true)
    (k53 : PySem.W.keepIn K (.ref f53) = true)
    (pg : PySem.W.plainGet K C Str.empty = true)
    (hd : PySem.W.hasDictIn K C = true)
    (po : PySem.W.plainOver K C = true)
    (sa : PySem.W.findIn K (.ref C) "__setattr__" = some (some (.builtin "object.__setattr__")))
    (mk : PySem.W.makesIn K C = true)
    (kc : PySem.W.keepIn K (.ref C) = true)
    (nS : PySem.W.findIn K (.ref C) "stack" = some none)
    (aN : PySem.W.nsIn K mainGlobals "NoPane" = some (some (.ref CN)))
    (xN : PySem.W.excIn K CN [.type "ValueError", .type "Exception", .type "BaseException", .type "object"] "ValueError.__new__" = true)
    (kN : PySem.W.keepIn K (.ref CN) = true)
    (bN : PySem.W.subIn K (.ref CN) (.type "BaseException") = some true)
    (tN : PySem.W.typeIn K (.ref CN) = some (.type "type"))
    (gaN : PySem.W.findIn K (.ref CN) "__getattribute__" = some (some (.builtin "BaseException.__getattribute__")))
    (ggN : PySem.W.findIn K (.ref CN) "__getattr__" = some none)
    (hdN : PySem.W.hasDictIn K CN = true)
    (clN : PySem.W.findIn K (.ref CN) "__class__" = some (some (.builtin "object.__class__")))
    (spN : PySem.W.specialIn K (.builtin "object.__class__") "__get__" = some (some (.builtin "getset_descriptor.__get__")))
    (tkN : PySem.W.takesIn K (.builtin "object.__class__") = some true)
    (mrN : PySem.W.mroIn K CN (.type "object") = some true)
    (sN : PySem.W.subIn K (.ref CN) (.ref CN) = some true)
    (aGE : PySem.W.nsIn K mainGlobals "GlassError" = some (some (.ref CG)))
    (ic_CG : PySem.W.isClsIn K CG = true)
    (tc_CG : PySem.W.typeIn K (.ref CG) = some (.type "type"))
    (sc_CG : PySem.W.subIn K (.ref CN) (.ref CG) = some true)
    (n_c1 : PySem.W.nsIn K mainGlobals "Missing" = some (some (.ref c1)))
    (ic_c1 : PySem.W.isClsIn K c1 = true)
    (tc_c1 : PySem.W.typeIn K (.ref c1) = some (.type "type"))
    (sc_c1 : PySem.W.subIn K (.ref CN) (.ref c1) = some false)
    (n_c2 : PySem.W.nsIn K mainGlobals "NotFolder" = some (some (.ref c2)))
    (ic_c2 : PySem.W.isClsIn K c2 = true)
    (tc_c2 : PySem.W.typeIn K (.ref c2) = some (.type "type"))
    (sc_c2 : PySem.W.subIn K (.ref CN) (.ref c2) = some false)
    (n_c3 : PySem.W.nsIn K mainGlobals "NoPlace" = some (some (.ref c3)))
    (ic_c3 : PySem.W.isClsIn K c3 = true)
    (tc_c3 : PySem.W.typeIn K (.ref c3) = some (.type "type"))
    (sc_c3 : PySem.W.subIn K (.ref CN) (.ref c3) = some false)
    (n_c4 : PySem.W.nsIn K mainGlobals "Astray" = some (some (.ref c4)))
    (ic_c4 : PySem.W.isClsIn K c4 = true)
    (tc_c4 : PySem.W.typeIn K (.ref c4) = some (.type "type"))
    (sc_c4 : PySem.W.subIn K (.ref CN) (.ref c4) = some false)
    (n_c5 : PySem.W.nsIn K mainGlobals "IsFolder" = some (some (.ref c5)))
    (ic_c5 : PySem.W.isClsIn K c5 = true)
    (tc_c5 : PySem.W.typeIn K (.ref c5) = some (.type "type"))
    (sc_c5 : PySem.W.subIn K (.ref CN) (.ref c5) = some false)
    (n_d1 : PySem.W.nsIn K mainGlobals "IsThere" = some (some (.ref d1)))
    (ic_d1 : PySem.W.isClsIn K d1 = true)
    (tc_d1 : PySem.W.typeIn K (.ref d1) = some (.type "type"))
    (sc_d1 : PySem.W.subIn K (.ref CN) (.ref d1) = some false)
    (n_d2 : PySem.W.nsIn K mainGlobals "NotEmpty" = some (some (.ref d2)))
    (ic_d2 : PySem.W.isClsIn K d2 = true)
    (tc_d2 : PySem.W.typeIn K (.ref d2) = some (.type "type"))
    (sc_d2 : PySem.W.subIn K (.ref CN) (.ref d2) = some false)
    (n_d3 : PySem.W.nsIn K mainGlobals "InItself" = some (some (.ref d3)))
    (ic_d3 : PySem.W.isClsIn K d3 = true)
    (tc_d3 : PySem.W.typeIn K (.ref d3) = some (.type "type"))
    (sc_d3 : PySem.W.subIn K (.ref CN) (.ref d3) = some false)
    (n_d4 : PySem.W.nsIn K mainGlobals "TooDeep" = some (some (.ref d4)))
    (ic_d4 : PySem.W.isClsIn K d4 = true)
    (tc_d4 : PySem.W.typeIn K (.ref d4) = some (.type "type"))
    (sc_d4 : PySem.W.subIn K (.ref CN) (.ref d4) = some false)
    (n_d5 : PySem.W.nsIn K mainGlobals "Crowded" = some (some (.ref d5)))
    (ic_d5 : PySem.W.isClsIn K d5 = true)
    (tc_d5 : PySem.W.typeIn K (.ref d5) = some (.type "type"))
    (sc_d5 : PySem.W.subIn K (.ref CN) (.ref d5) = some false)
    (mFILE : PySem.W.nsIn K mainGlobals "FILE" = some (some (.str FILE tFi)))
    (mLINK : PySem.W.nsIn K mainGlobals "LINK" = some (some (.str LINK tLi)))
    (mFOLDER : PySem.W.nsIn K mainGlobals "FOLDER" = some (some (.str FOLDER tFo)))
    (mGONE : PySem.W.nsIn K mainGlobals "GONE" = some (some (.str GONE tGo)))
    (mSHUT : PySem.W.nsIn K mainGlobals "SHUT" = some (some (.str SHUT tSh)))
    (z_len : PySem.W.nsIn K mainGlobals "len" = some none)
    (z_range : PySem.W.nsIn K mainGlobals "range" = some none)
    (z_sorted : PySem.W.nsIn K mainGlobals "sorted" = some none)
    (z_list : PySem.W.nsIn K mainGlobals "list" = some none)
    (z_tuple : PySem.W.nsIn K mainGlobals "tuple" = some none)
    (z_isinstance : PySem.W.nsIn K mainGlobals "isinstance" = some none)
    (z_str : PySem.W.nsIn K mainGlobals "str" = some none)
    (z_int : PySem.W.nsIn K mainGlobals "int" = some none)
    (z_bool : PySem.W.nsIn K mainGlobals "bool" = some none)
    (z_max : PySem.W.nsIn K mainGlobals "max" = some none)
    (z_min : PySem.W.nsIn K mainGlobals "min" = some none)
    : ∃ fd : FuncData, (∀ (s : Shared) (v : Value), BindsTo s fd ⟨[v], []⟩ [("_law_script", v)]) ∧ ∀ base : Heap, K.In base → base.Ns mainGlobals mg → FnOk l.prog w K mg base CX0 8 fa fd ["_law_script"] (spLaw K) := by
  have e := hfa.symm.trans (PySem.W.mg_of X G a24)
  cases e
  have T : Txt mg := ⟨⟨_, PySem.W.mg_of X G mFILE⟩, ⟨_, PySem.W.mg_of X G mLINK⟩, ⟨_, PySem.W.mg_of X G mFOLDER⟩, ⟨_, PySem.W.mg_of X G mGONE⟩, ⟨_, PySem.W.mg_of X G mSHUT⟩, PySem.W.mg_none_of X G z_len, PySem.W.mg_none_of X G z_range, PySem.W.mg_none_of X G z_sorted, PySem.W.mg_none_of X G z_list, PySem.W.mg_none_of X G z_tuple, PySem.W.mg_none_of X G z_isinstance, PySem.W.mg_none_of X G z_str, PySem.W.mg_none_of X G z_int, PySem.W.mg_none_of X G z_bool, PySem.W.mg_none_of X G z_max, PySem.W.mg_none_of X G z_min⟩
  have TG : GTxt K C := ⟨⟨pg, hd, po, sa⟩, nS⟩
  have TN : ETxt K mg "NoPane" CN := ⟨PySem.W.mg_of X G aN, xN, kN, bN, tN⟩
  have EX : ExcC K CN := ⟨gaN, ggN, bN, hdN, clN, spN, tkN, mrN⟩
  have ER : ErrT K mg CN CG c1 c2 c3 c4 c5 d1 d2 d3 d4 d5 := ⟨EX, PySem.W.exm_ref bN hdN tN sN, PySem.W.mg_of X G aGE, kit_own sN ic_CG tc_CG sc_CG, PySem.W.mg_of X G n_c1, PySem.W.mg_of X G n_c2, PySem.W.mg_of X G n_c3, PySem.W.mg_of X G n_c4, PySem.W.mg_of X G n_c5, PySem.W.mg_of X G n_d1, PySem.W.mg_of X G n_d2, PySem.W.mg_of X G n_d3, PySem.W.mg_of X G n_d4, PySem.W.mg_of X G n_d5, kit_no (kit_own sN ic_c1 tc_c1 sc_c1) (kit_no (kit_own sN ic_c2 tc_c2 sc_c2) (kit_no (kit_own sN ic_c3 tc_c3 sc_c3) (kit_no (kit_own sN ic_c4 tc_c4 sc_c4) (kit_no (kit_own sN ic_c5 tc_c5 sc_c5) (kitAny_nil))))), kit_no (kit_own sN ic_d1 tc_d1 sc_d1) (kit_no (kit_own sN ic_d2 tc_d2 sc_d2) (kit_no (kit_own sN ic_d3 tc_d3 sc_d3) (kit_no (kit_own sN ic_d4 tc_d4 sc_d4) (kit_no (kit_own sN ic_d5 tc_d5 sc_d5) (kitAny_nil)))))⟩
  have F0 := fun_mk (st := sByWay) l0 e0 k0
  have b0 := F0.binds (ps := ["entries"]) fun _ _ _ _ _ _ us hl => match us, hl with | [_], _ => rfl
  have g0 := PySem.W.mg_of X G a0
  have F1 := fun_mk (st := sCovered) l1 e1 k1
  have b1 := F1.binds (ps := ["things", "way"]) fun _ _ _ _ _ _ us hl => match us, hl with | [_, _], _ => rfl
  have g1 := PySem.W.mg_of X G a1
  have F2 := fun_mk (st := sShownEntry) l2 e2 k2
  have b2 := F2.binds (ps := ["entry"]) fun _ _ _ _ _ _ us hl => match us, hl with | [_], _ => rfl
  have g2 := PySem.W.mg_of X G a2
  have F3 := fun_mk (st := sLaid) l3 e3 k3
  have b3 := F3.binds (ps := ["pane", "tree"]) fun _ _ _ _ _ _ us hl => match us, hl with | [_, _], _ => rfl
  have g3 := PySem.W.mg_of X G a3
  have F4 := fun_mk (st := sSeen) l4 e4 k4
  have b4 := F4.binds (ps := ["panes"]) fun _ _ _ _ _ _ us hl => match us, hl with | [_], _ => rfl
  have g4 := PySem.W.mg_of X G a4
  have F5 := fun_mk (st := sJoins) l5 e5 k5
  have b5 := F5.binds (ps := ["mark"]) fun _ _ _ _ _ _ us hl => match us, hl with | [_], _ => rfl
  have g5 := PySem.W.mg_of X G a5
  have F6 := fun_mk (st := sShutAbove) l6 e6 k6
  have b6 := F6.binds (ps := ["things", "way"]) fun _ _ _ _ _ _ us hl => match us, hl with | [_, _], _ => rfl
  have g6 := PySem.W.mg_of X G a6
  have F7 := fun_mk (st := sHungAt) l7 e7 k7
  have b7 := F7.binds (ps := ["ones", "others", "way"]) fun _ _ _ _ _ _ us hl => match us, hl with | [_, _, _], _ => rfl
  have g7 := PySem.W.mg_of X G a7
  have F8 := fun_mk (st := sMeet) l8 e8 k8
  have b8 := F8.binds (ps := ["upper", "lower"]) fun _ _ _ _ _ _ us hl => match us, hl with | [_, _], _ => rfl
  have g8 := PySem.W.mg_of X G a8
  have F9 := fun_mk (st := sSunk) l9 e9 k9
  have b9 := F9.binds (ps := ["panes", "k"]) fun _ _ _ _ _ _ us hl => match us, hl with | [_, _], _ => rfl
  have g9 := PySem.W.mg_of X G a9
  have F10 := fun_mk (st := sCellAt) l10 e10 k10
  have b10 := F10.binds (ps := ["_law_script", "_law_k"]) fun _ _ _ _ _ _ us hl => match us, hl with | [_, _], _ => rfl
  have g10 := PySem.W.mg_of X G a10
  have F11 := fun_mk (st := sCells) l11 e11 k11
  have b11 := F11.binds (ps := ["_law_script", "_law_first", "_law_step", "_law_many"]) fun _ _ _ _ _ _ us hl => match us, hl with | [_, _, _, _], _ => rfl
  have g11 := PySem.W.mg_of X G a11
  have F12 := fun_mk (st := sMixed) l12 e12 k12
  have b12 := F12.binds (ps := ["_law_cell", "_law_turn", "_law_many"]) fun _ _ _ _ _ _ us hl => match us, hl with | [_, _, _], _ => rfl
  have g12 := PySem.W.mg_of X G a12
  have F13 := fun_mk (st := sNameBy) l13 e13 k13
  have b13 := F13.binds (ps := ["_law_stem", "_law_v"]) fun _ _ _ _ _ _ us hl => match us, hl with | [_, _], _ => rfl
  have g13 := PySem.W.mg_of X G a13
  have F14 := fun_mk (st := sTextBy) l14 e14 k14
  have b14 := F14.binds (ps := ["_law_mark", "_law_cell", "_law_stem", "_law_wide"]) fun _ _ _ _ _ _ us hl => match us, hl with | [_, _, _, _], _ => rfl
  have g14 := PySem.W.mg_of X G a14
  have F15 := fun_mk (st := sUnderShut) l15 e15 k15
  have b15 := F15.binds (ps := ["_law_things", "_law_way"]) fun _ _ _ _ _ _ us hl => match us, hl with | [_, _], _ => rfl
  have g15 := PySem.W.mg_of X G a15
  have F16 := fun_mk (st := sPaneBy) l16 e16 k16
  have b16 := F16.binds (ps := ["_law_cells_here", "_law_stem"]) fun _ _ _ _ _ _ us hl => match us, hl with | [_, _], _ => rfl
  have g16 := PySem.W.mg_of X G a16
  have F17 := fun_mk (st := sLLaid) l17 e17 k17
  have b17 := F17.binds (ps := ["_law_pane", "_law_tree"]) fun _ _ _ _ _ _ us hl => match us, hl with | [_, _], _ => rfl
  have g17 := PySem.W.mg_of X G a17
  have F18 := fun_mk (st := sLSame) l18 e18 k18
  have b18 := F18.binds (ps := ["_law_found", "_law_due"]) fun _ _ _ _ _ _ us hl => match us, hl with | [_, _], _ => rfl
  have g18 := PySem.W.mg_of X G a18
  have F19 := fun_mk (st := sLSunk) l19 e19 k19
  have b19 := F19.binds (ps := ["_law_glass", "_law_k"]) fun _ _ _ _ _ _ us hl => match us, hl with | [_, _], _ => rfl
  have g19 := PySem.W.mg_of X G a19
  have F20 := fun_mk (st := sLSeen) l20 e20 k20
  have b20 := F20.binds (ps := ["_law_panes"]) fun _ _ _ _ _ _ us hl => match us, hl with | [_], _ => rfl
  have g20 := PySem.W.mg_of X G a20
  have F21 := fun_mk (st := sNumber) l21 e21 k21
  have b21 := F21.binds (ps := ["_law_cell", "_law_many"]) fun _ _ _ _ _ _ us hl => match us, hl with | [_, _], _ => rfl
  have g21 := PySem.W.mg_of X G a21
  have F22 := fun_mk (st := sPassed) l22 e22 k22
  have b22 := F22.binds (ps := ["_law_panes", "_law_k", "_law_low", "_law_pair"]) fun _ _ _ _ _ _ us hl => match us, hl with | [_, _, _, _], _ => rfl
  have g22 := PySem.W.mg_of X G a22
  have F23 := fun_mk (st := sRight) l23 e23 k23
  have b23 := F23.binds (ps := ["_law_glass", "_law_panes", "_law_k"]) fun _ _ _ _ _ _ us hl => match us, hl with | [_, _, _], _ => rfl
  have g23 := PySem.W.mg_of X G a23
  have F24 := fun_mk (st := sLaw) l24 e24 k24
  have b24 := F24.binds (ps := ["_law_script"]) fun _ _ _ _ _ _ us hl => match us, hl with | [_], _ => rfl
  have g24 := PySem.W.mg_of X G a24
  have F50 := fun_mk (st := sGInit) l50 e50 k50
  have b50 := F50.binds (ps := ["self", "panes"]) fun _ _ _ _ _ _ us hl => match us, hl with | [_, _], _ => rfl
  have F51 := fun_mk (st := sGSeen) l51 e51 k51
  have b51 := F51.binds (ps := ["self"]) fun _ _ _ _ _ _ us hl => match us, hl with | [_], _ => rfl
  have F52 := fun_mk (st := sGPanes) l52 e52 k52
  have b52 := F52.binds (ps := ["self"]) fun _ _ _ _ _ _ us hl => match us, hl with | [_], _ => rfl
  have F53 := fun_mk (st := sGSink) l53 e53 k53
  have b53 := F53.binds (ps := ["self", "k"]) fun _ _ _ _ _ _ us hl => match us, hl with | [_, _], _ => rfl
  have gSL := PySem.W.mg_of X G aSL
  refine ⟨PySem.W.fnOf "law" "law" (defArgs sLaw) (defBody sLaw) (defScope sLaw) .none kV24 dc24 pm24 an24 cd24 ct24, fun s v => .of_eq rfl, fun base _ _ => ?_⟩
  have OH : FnOk l.prog w K mg base CX0 2 f7 _ ["ones", "others", "way"] spHungAt := ok_hung_at F7 T F5 b5 g5 F6 b6 g6
  have OM : FnOk l.prog w K mg base CX0 3 f8 _ ["upper", "lower"] spMeet := ok_meet F8 T F0 b0 g0 F7 b7 g7 OH
  have OL : FnOk l.prog w K mg base CX0 2 f3 _ ["pane", "tree"] spLaid := ok_laid F3 T F0 b0 g0 F1 b1 g1 F2 b2 g2
  have OS : FnOk l.prog w K mg base CX0 3 f4 _ ["panes"] spSeen := ok_seen F4 F3 b3 g3 OL
  have OK : FnOk l.prog w K mg base (L2.CX l.prog w) 4 f9 _ ["panes", "k"] (spSunk CN) := ok_sunk F9 T TN F8 b8 g8 OM
  have OGI : FnOk l.prog w K mg base CX0 1 f50 _ ["self", "panes"] (spGInit C) := ok_ginit F50 T TG
  have OGE : FnOk l.prog w K mg base CX0 4 f51 _ ["self"] (spGSeen C) := ok_gseen F51 TG F4 b4 gSL OS
  have OGP : FnOk l.prog w K mg base CX0 1 f52 _ ["self"] (spGPanes C) := ok_gpanes F52 T TG
  have OGS : FnOk l.prog w K mg base (L2.CX l.prog w) 5 f53 _ ["self", "k"] (spGSink C CN) := ok_gsink F53 TG F9 b9 g9 OK
  have OPB : FnOk l.prog w K mg base CX0 3 f16 _ ["_law_cells_here", "_law_stem"] spPaneBy := ok_pane_by F16 T F12 b12 g12 F13 b13 g13 F15 b15 g15 F14 b14 g14
  have OLS : FnOk l.prog w K mg base CX0 2 f20 _ ["_law_panes"] spSeen := ok_lseen F20 T F17 b17 g17
  have OLK : FnOk l.prog w K mg base CX0 6 f19 _ ["_law_glass", "_law_k"] (spLSunk C) := ok_lsunk F19 T TG ⟨a53, i53, k53⟩ OGS b53 TN ER
  have OPD : FnOk l.prog w K mg base CX0 4 f22 _ ["_law_panes", "_law_k", "_law_low", "_law_pair"] spPassed := ok_passed F22 T F8 b8 g8 OM
  have OR : FnOk l.prog w K mg base CX0 7 f23 _ ["_law_glass", "_law_panes", "_law_k"] (spRight C) := ok_right F23 T TG F19 b19 g19 OLK ⟨a52, i52, k52⟩ b52 OGP ⟨a51, i51, k51⟩ b51 OGE F22 b22 g22 OPD F18 b18 g18 F20 b20 g20 OLS
  exact ok_law F24 T TG (PySem.W.mg_of X G aG) F10 b10 g10 F11 b11 g11 F12 b12 g12 F16 b16 g16 OPB F21 b21 g21 F23 b23 g23 OR ⟨mk, a50, i50, kc⟩ b50 OGI ⟨a52, i52, k52⟩ b52 OGP
theorem walk {l : PySem.W.OpenLaw} {q : Program} {loose : List Str} {XP : (Str → Option Value) → Heap → Prop} {YP : World → Heap → Prop} {d : DefRec} {K : Params → PySem.W.Frag} (hn : l.most = some 63) (hdf : d.params.defaults = [])
    (hY : ∀ (w : World) (h : Heap), YP w h → (K w.params).In h)
    (F : ∀ (w : World) (mg : Str → Option Value) (fa : Addr) (h : Heap), (K w.params).In h → h.Ns mainGlobals mg → mg d.name = some (.ref fa) →
      ∃ fd : FuncData, (∀ (s : Shared) (u : Value), BindsTo s fd ⟨[u], []⟩ [("_law_script", u)]) ∧ ∀ base : Heap, (K w.params).In base → base.Ns mainGlobals mg → FnOk l.prog w (K w.params) mg base CX0 8 fa fd ["_law_script"] (spLaw (K w.params))) :
    PySem.W.WalkO q loose XP YP l.row.toRowW d [] (fun f vs => PySem.call f vs) :=
  L2.walk_of (n := 63) (k := 8) (x := "_law_script") (CX := fun _ => CX0) (sp := fun w => spLaw (K w.params)) hn (by decide) hdf ⟨rfl, by decide, by decide⟩ hY F (fun _ _ a ns hl _ hS => ⟨a, ns, rfl, hS, hl, fun _ => rfl⟩) fun _ _ _ _ _ z => z
end GL

open PySem PySem.W PyProof.Rows in
set_option maxRecDepth 100000 in
set_option maxHeartbeats 0 in
open_top head for PySem.Challenge.rw_glasslayers_k73_sunk_in_the_glass
open PySem PySem.W PyProof.Rows in
set_option maxRecDepth 100000 in
set_option maxHeartbeats 0 in
theorem PySem.Challenge.cw_glasslayers_k73_sunk_in_the_glass_holds : PySem.Challenge.rw_glasslayers_k73_sunk_in_the_glass.Holds := by
  refine head ?_
  k_fill
  refine GL.walk (l := PySem.Challenge.rw_glasslayers_k73_sunk_in_the_glass) rfl rfl (fun w h Y => PySem.W.kIn_of Y) ?F
  case F =>
    intro w mg fa h KX G hmg
    refine' GL.all_mk KX G hmg ?a0 ?l0 ?e0 ?k0 ?a1 ?l1 ?e1 ?k1 ?a2 ?l2 ?e2 ?k2 ?a3 ?l3 ?e3 ?k3 ?a4 ?l4 ?e4 ?k4 ?a5 ?l5 ?e5 ?k5 ?a6 ?l6 ?e6 ?k6 ?a7 ?l7 ?e7 ?k7 ?a8 ?l8 ?e8 ?k8 ?a9 ?l9 ?e9 ?k9 ?a10 ?l10 ?e10 ?k10 ?a11 ?l11 ?e11 ?k11 ?a12 ?l12 ?e12 ?k12 ?a13 ?l13 ?e13 ?k13 ?a14 ?l14 ?e14 ?k14 ?a15 ?l15 ?e15 ?k15 ?a16 ?l16 ?e16 ?k16 ?a17 ?l17 ?e17 ?k17 ?a18 ?l18 ?e18 ?k18 ?a19 ?l19 ?e19 ?k19 ?a20 ?l20 ?e20 ?k20 ?a21 ?l21 ?e21 ?k21 ?a22 ?l22 ?e22 ?k22 ?a23 ?l23 ?e23 ?k23 ?a24 ?l24 ?e24 ?k24 ?aSL ?aG ?a50 ?i50 ?l50 ?e50 ?k50 ?a51 ?i51 ?l51 ?e51 ?k51 ?a52 ?i52 ?l52 ?e52 ?k52 ?a53 ?i53 ?l53 ?e53 ?k53 ?pg ?hd ?po ?sa ?mk ?kc ?nS ?aN ?xN ?kN ?bN ?tN ?gaN ?ggN ?hdN ?clN ?spN ?tkN ?mrN ?sN ?aGE ?ic_CG ?tc_CG ?sc_CG ?n_c1 ?ic_c1 ?tc_c1 ?sc_c1 ?n_c2 ?ic_c2 ?tc_c2 ?sc_c2 ?n_c3 ?ic_c3 ?tc_c3 ?sc_c3 ?n_c4 ?ic_c4 ?tc_c4 ?sc_c4 ?n_c5 ?ic_c5 ?tc_c5 ?sc_c5 ?n_d1 ?ic_d1 ?tc_d1 ?sc_d1 ?n_d2 ?ic_d2 ?tc_d2 ?sc_d2 ?n_d3 ?ic_d3 ?tc_d3 ?sc_d3 ?n_d4 ?ic_d4 ?tc_d4 ?sc_d4 ?n_d5 ?ic_d5 ?tc_d5 ?sc_d5 ?mFILE ?mLINK ?mFOLDER ?mGONE ?mSHUT ?z_len ?z_range ?z_sorted ?z_list ?z_tuple ?z_isinstance ?z_str ?z_int ?z_bool ?z_max ?z_min
    (case a0 => k_is)
    (case l0 => k_is)
    (case e0 => k_is)
    (case k0 => k_is)
    (case a1 => k_is)
    (case l1 => k_is)
    (case e1 => k_is)
    (case k1 => k_is)
    (case a2 => k_is)
    (case l2 => k_is)
    (case e2 => k_is)
    (case k2 => k_is)
    (case a3 => k_is)
    (case l3 => k_is)
    (case e3 => k_is)
    (case k3 => k_is)
    (case a4 => k_is)
    (case l4 => k_is)
    (case e4 => k_is)
    (case k4 => k_is)
    (case a5 => k_is)
    (case l5 => k_is)
    (case e5 => k_is)
    (case k5 => k_is)
    (case a6 => k_is)
    (case l6 => k_is)
    (case e6 => k_is)
    (case k6 => k_is)
    (case a7 => k_is)
    (case l7 => k_is)
    (case e7 => k_is)
    (case k7 => k_is)
    (case a8 => k_is)
    (case l8 => k_is)
    (case e8 => k_is)
    (case k8 => k_is)
    (case a9 => k_is)
    (case l9 => k_is)
    (case e9 => k_is)
    (case k9 => k_is)
    (case a10 => k_is)
    (case l10 => k_is)
    (case e10 => k_is)
    (case k10 => k_is)
    (case a11 => k_is)
    (case l11 => k_is)
    (case e11 => k_is)
    (case k11 => k_is)
    (case a12 => k_is)
    (case l12 => k_is)
    (case e12 => k_is)
    (case k12 => k_is)
    (case a13 => k_is)
    (case l13 => k_is)
    (case e13 => k_is)
    (case k13 => k_is)
    (case a14 => k_is)
    (case l14 => k_is)
    (case e14 => k_is)
    (case k14 => k_is)
    (case a15 => k_is)
    (case l15 => k_is)
    (case e15 => k_is)
    (case k15 => k_is)
    (case a16 => k_is)
    (case l16 => k_is)
    (case e16 => k_is)
    (case k16 => k_is)
    (case a17 => k_is)
    (case l17 => k_is)
    (case e17 => k_is)
    (case k17 => k_is)
    (case a18 => k_is)
    (case l18 => k_is)
    (case e18 => k_is)
    (case k18 => k_is)
    (case a19 => k_is)
    (case l19 => k_is)
    (case e19 => k_is)
    (case k19 => k_is)
    (case a20 => k_is)
    (case l20 => k_is)
    (case e20 => k_is)
    (case k20 => k_is)
    (case a21 => k_is)
    (case l21 => k_is)
    (case e21 => k_is)
    (case k21 => k_is)
    (case a22 => k_is)
    (case l22 => k_is)
    (case e22 => k_is)
    (case k22 => k_is)
    (case a23 => k_is)
    (case l23 => k_is)
    (case e23 => k_is)
    (case k23 => k_is)
    (case a24 => k_is)
    (case l24 => k_is)
    (case e24 => k_is)
    (case k24 => k_is)
    (case aSL => k_is)
    (case aG => k_is)
    (case a50 => k_is)
    (case i50 => k_is)
    (case l50 => k_is)
    (case e50 => k_is)
    (case k50 => k_is)
    (case a51 => k_is)
    (case i51 => k_is)
    (case l51 => k_is)
    (case e51 => k_is)
    (case k51 => k_is)
    (case a52 => k_is)
    (case i52 => k_is)
    (case l52 => k_is)
    (case e52 => k_is)
    (case k52 => k_is)
    (case a53 => k_is)
    (case i53 => k_is)
    (case l53 => k_is)
    (case e53 => k_is)
    (case k53 => k_is)
    (case pg => k_is)
    (case hd => k_is)
    (case po => k_is)
    (case sa => k_is)
    (case mk => k_is)
    (case kc => k_is)
    (case nS => k_is)
    (case aN => k_is)
    (case xN => k_exc)
    (case kN => k_is)
    (case bN => k_is)
    (case tN => k_is)
    (case gaN => k_is)
    (case ggN => k_is)
    (case hdN => k_is)
    (case clN => k_is)
    (case spN => k_is)
    (case tkN => k_is)
    (case mrN => k_is)
    (case sN => first | rfl | k_is)
    (case aGE => k_is)
    (case ic_CG => k_is)
    (case tc_CG => k_is)
    (case sc_CG => first | rfl | k_is)
    (case n_c1 => k_is)
    (case ic_c1 => k_is)
    (case tc_c1 => k_is)
    (case sc_c1 => first | rfl | k_is)
    (case n_c2 => k_is)
    (case ic_c2 => k_is)
    (case tc_c2 => k_is)
    (case sc_c2 => first | rfl | k_is)
    (case n_c3 => k_is)
    (case ic_c3 => k_is)
    (case tc_c3 => k_is)
    (case sc_c3 => first | rfl | k_is)
    (case n_c4 => k_is)
    (case ic_c4 => k_is)
    (case tc_c4 => k_is)
    (case sc_c4 => first | rfl | k_is)
    (case n_c5 => k_is)
    (case ic_c5 => k_is)
    (case tc_c5 => k_is)
    (case sc_c5 => first | rfl | k_is)
    (case n_d1 => k_is)
    (case ic_d1 => k_is)
    (case tc_d1 => k_is)
    (case sc_d1 => first | rfl | k_is)
    (case n_d2 => k_is)
    (case ic_d2 => k_is)
    (case tc_d2 => k_is)
    (case sc_d2 => first | rfl | k_is)
    (case n_d3 => k_is)
    (case ic_d3 => k_is)
    (case tc_d3 => k_is)
    (case sc_d3 => first | rfl | k_is)
    (case n_d4 => k_is)
    (case ic_d4 => k_is)
    (case tc_d4 => k_is)
    (case sc_d4 => first | rfl | k_is)
    (case n_d5 => k_is)
    (case ic_d5 => k_is)
    (case tc_d5 => k_is)
    (case sc_d5 => first | rfl | k_is)
    (case mFILE => k_is)
    (case mLINK => k_is)
    (case mFOLDER => k_is)
    (case mGONE => k_is)
    (case mSHUT => k_is)
    (case z_len => k_is)
    (case z_range => k_is)
    (case z_sorted => k_is)
    (case z_list => k_is)
    (case z_tuple => k_is)
    (case z_isinstance => k_is)
    (case z_str => k_is)
    (case z_int => k_is)
    (case z_bool => k_is)
    (case z_max => k_is)
    (case z_min => k_is)
