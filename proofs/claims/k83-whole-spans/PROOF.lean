import PyProof.Rows.All
import Wide.All
import OpenK.AllK
import Wide.FinOn
import KE.GoesEnumKw
import KE.KDictZip
import KE.KDictPairs
import HandS.ForMost
import HandS.ForExc
import HandS.Wide
import HandS.Rev
import HandS.IsInst
import HandS.HotCalls
import HandS.ExcInit
import HandS.Defaults
import HandS.SortKw
import HandS.ClsMeth
import HandS.Deep
import HandS.DeepEq
import HandS.Conv
import HandS.Walk
import KE.OsGo
import HandS.HeadHook1
import HandS.HeadHook2
import KE.KStateDown
import HandS.Head0
import HandS.Head1
import HandS.Head2
import HandS.HeadEnd
import PySem.Challenge.RW_idlegraph_k83_whole_spans
set_option Elab.async false
set_option linter.all false
set_option maxRecDepth 100000
set_option maxHeartbeats 0
namespace W83
/-! the log in plain Lean -/
inductive Ev where
  | born | enter | back | again
  deriving DecidableEq
structure LRow where
  ev : Ev
  n : Nat
  l : PySem.Str
  s : Nat
structure WRow where
  n : Nat
  l : PySem.Str
  by_ : Option Nat
  b : Nat
  d : Option Nat
abbrev WS := List WRow × List Nat
def topRow (st : WS) : Option Nat := st.2.getLast?.bind fun p => (st.1[p]?).map (·.n)
def wstep (st : WS) (r : LRow) : WS :=
  match r.ev with
  | .enter => (st.1 ++ [⟨r.n, r.l, topRow st, r.s, none⟩], st.2 ++ [st.1.length])
  | .back => (match st.2.getLast? with
    | some p => (match st.1[p]? with
      | some q => (st.1.set p ⟨r.n, r.l, q.by_, q.b, some r.s⟩, st.2.dropLast)
      | none => st)
    | none => st)
  | _ => st
def W (g : List LRow) : WS := g.foldl wstep ([], [])
theorem W_snoc (g : List LRow) (r : LRow) : W (g ++ [r]) = wstep (W g) r := by
  unfold W
  rw [List.foldl_append]
  rfl
/-- the numbers entered, the births, in a log -/
def ents (g : List LRow) : List Nat := g.filterMap fun r => match r.ev with | .enter => some r.n | _ => none
def births (g : List LRow) : List (Nat × PySem.Str) := g.filterMap fun r => match r.ev with | .born => some (r.n, r.l) | _ => none
def idles (g : List LRow) : List (Nat × PySem.Str) := (births g).filter fun p => !(ents g).contains p.1

inductive Good : List LRow → List PySem.Str → Nat → Prop
  | nil : Good [] [] 0
  | born {g L t s} (l : PySem.Str) (h : Good g L t) (ht : t ≤ s) : Good (g ++ [⟨.born, L.length, l, s⟩]) (L ++ [l]) s
  | again {g L t s k l} (h : Good g L t) (hl : L[k]? = some l) (ht : t ≤ s) : Good (g ++ [⟨.again, k, l, s⟩]) L s
  | enter {g L t s k l} (h : Good g L t) (hl : L[k]? = some l) (hn : ∀ r ∈ (W g).1, r.n ≠ k) (ht : t ≤ s) (hb : ∀ r ∈ (W g).1, r.b < s) : Good (g ++ [⟨.enter, k, l, s⟩]) L s
  | back {g L t s l w p} {r : WRow} (h : Good g L t) (hw : (W g).2 = w ++ [p]) (hr : (W g).1[p]? = some r) (hl : L[r.n]? = some l) (ht : t ≤ s) : Good (g ++ [⟨.back, r.n, l, s⟩]) L s

structure Fact (rows : List WRow) (way : List Nat) (L : List PySem.Str) (t : Nat) : Prop where
  nd : (rows.map (·.n)).Nodup
  lab : ∀ r ∈ rows, L[r.n]? = some r.l
  begun : ∀ (i j : Nat) (ri rj : WRow), i < j → rows[i]? = some ri → rows[j]? = some rj → ri.b < rj.b
  bt : ∀ r ∈ rows, r.b ≤ t
  winc : way.Pairwise (· < ·)
  wlt : ∀ p ∈ way, p < rows.length
  opn : ∀ (i : Nat) (r : WRow), rows[i]? = some r → (r.d = none ↔ i ∈ way)
  dn : ∀ r ∈ rows, ∀ e, r.d = some e → r.b ≤ e ∧ e ≤ t
  par : ∀ (i : Nat) (r : WRow), rows[i]? = some r → r.by_ = none ∨ ∃ (j : Nat) (q : WRow), j < i ∧ rows[j]? = some q ∧ r.by_ = some q.n ∧ ∀ e, q.d = some e → ∃ e', r.d = some e' ∧ e' ≤ e
  ch : ∀ (m p : Nat) (r : WRow), way[m]? = some p → rows[p]? = some r → r.by_ = (match m with | 0 => none | k + 1 => (way[k]?).bind fun p => (rows[p]?).map (·.n))

theorem lt_len {α : Type} {l : List α} {i : Nat} {x : α} (h : l[i]? = some x) : i < l.length := (List.getElem?_eq_some_iff.mp h).1
theorem snoc_at {α : Type} {l : List α} {x y : α} {i : Nat} (h : (l ++ [x])[i]? = some y) : (i < l.length ∧ l[i]? = some y) ∨ (i = l.length ∧ y = x) := by
  by_cases c : i < l.length
  · rw [List.getElem?_append_left c] at h
    exact .inl ⟨c, h⟩
  · rw [List.getElem?_append_right (by omega)] at h
    by_cases e : i - l.length = 0
    · rw [e] at h
      have h' : some x = some y := h
      exact .inr ⟨by omega, (Option.some.inj h').symm⟩
    · have : ([x] : List α)[i - l.length]? = none := List.getElem?_eq_none_iff.mpr (by simp; omega)
      rw [this] at h
      cases h
theorem nd_snoc' {α : Type} {l : List α} {x : α} (h : l.Nodup) (hx : ¬ x ∈ l) : (l ++ [x]).Nodup := by
  rw [List.nodup_append]
  refine ⟨h, by simp, ?_⟩
  intro a ha b hb
  rw [List.mem_singleton.mp hb]
  rintro rfl
  exact hx ha
theorem map_set_same {rows : List WRow} {p : Nat} {q r : WRow} (hq : rows[p]? = some q) (hn : r.n = q.n) : (rows.set p r).map (·.n) = rows.map (·.n) := by
  rw [List.map_set, hn]
  apply List.ext_getElem?
  intro i
  by_cases e : p = i
  · subst e
    rw [List.getElem?_set_self (by rw [List.length_map]; exact lt_len hq), List.getElem?_map, hq]
    rfl
  · rw [List.getElem?_set_ne e]
theorem set_at {rows : List WRow} {p i : Nat} {q r x : WRow} (hq : rows[p]? = some q) (h : (rows.set p r)[i]? = some x) : (i = p ∧ x = r) ∨ (i ≠ p ∧ rows[i]? = some x) := by
  by_cases e : p = i
  · subst e
    rw [List.getElem?_set_self (lt_len hq)] at h
    exact .inl ⟨rfl, (Option.some.inj h).symm⟩
  · rw [List.getElem?_set_ne e] at h
    exact .inr ⟨fun z => e z.symm, h⟩
theorem nd_eq {rows : List WRow} (h : (rows.map (·.n)).Nodup) {i j : Nat} {a b : WRow} (ha : rows[i]? = some a) (hb : rows[j]? = some b) (e : a.n = b.n) : i = j := by
  have h1 : (rows.map (·.n))[i]? = some a.n := by rw [List.getElem?_map, ha]; rfl
  have h2 : (rows.map (·.n))[j]? = some a.n := by rw [List.getElem?_map, hb, e]; rfl
  obtain ⟨l1, e1⟩ := List.getElem?_eq_some_iff.mp h1
  obtain ⟨l2, e2⟩ := List.getElem?_eq_some_iff.mp h2
  exact (List.getElem_inj h).mp (e1.trans e2.symm)
theorem Fact.none_ : Fact [] [] [] 0 := by
  refine ⟨List.nodup_nil, ?_, ?_, ?_, List.Pairwise.nil, ?_, ?_, ?_, ?_, ?_⟩
  · intro r h; cases h
  · intro i j a b _ h; simp at h
  · intro r h; cases h
  · intro p h; cases h
  · intro i r h; simp at h
  · intro r h; cases h
  · intro i r h; simp at h
  · intro m p r h; simp at h
theorem Fact.time {rows way L t s} (F : Fact rows way L t) (h : t ≤ s) : Fact rows way L s :=
  ⟨F.nd, F.lab, F.begun, fun r hr => Nat.le_trans (F.bt r hr) h, F.winc, F.wlt, F.opn, fun r hr e he => ⟨(F.dn r hr e he).1, Nat.le_trans (F.dn r hr e he).2 h⟩, F.par, F.ch⟩
theorem Fact.label {rows way L t} (F : Fact rows way L t) (l : PySem.Str) : Fact rows way (L ++ [l]) t :=
  ⟨F.nd, fun r hr => by rw [List.getElem?_append_left (lt_len (F.lab r hr))]; exact F.lab r hr, F.begun, F.bt, F.winc, F.wlt, F.opn, F.dn, F.par, F.ch⟩
theorem Fact.enter {rows way L t k l s} (F : Fact rows way L t) (hl : L[k]? = some l) (hn : ∀ r ∈ rows, r.n ≠ k) (ht : t ≤ s) (hb : ∀ r ∈ rows, r.b < s) :
    Fact (rows ++ [⟨k, l, topRow (rows, way), s, none⟩]) (way ++ [rows.length]) L s := by
  refine ⟨?_, ?_, ?_, ?_, ?_, ?_, ?_, ?_, ?_, ?_⟩
  · rw [List.map_append]
    refine nd_snoc' F.nd ?_
    intro h
    obtain ⟨r, hr, e⟩ := List.mem_map.mp h
    exact hn r hr e
  · intro r hr
    rcases List.mem_append.mp hr with h | h
    · exact F.lab r h
    · rw [List.mem_singleton.mp h]; exact hl
  · intro i j a b hij ha hb'
    rcases snoc_at hb' with ⟨c, h⟩ | ⟨c, h⟩
    · rcases snoc_at ha with ⟨c', h'⟩ | ⟨c', h'⟩
      · exact F.begun i j a b hij h' h
      · omega
    · rcases snoc_at ha with ⟨c', h'⟩ | ⟨c', h'⟩
      · rw [h]; exact hb a (List.mem_of_getElem? h')
      · omega
  · intro r hr
    rcases List.mem_append.mp hr with h | h
    · exact Nat.le_of_lt (hb r h)
    · rw [List.mem_singleton.mp h]; exact Nat.le_refl _
  · rw [List.pairwise_append]
    refine ⟨F.winc, by simp, ?_⟩
    intro a ha b hb'
    rw [List.mem_singleton.mp hb']
    exact F.wlt a ha
  · intro p hp
    rw [List.length_append]
    rcases List.mem_append.mp hp with h | h
    · have := F.wlt p h; simp; omega
    · rw [List.mem_singleton.mp h]; simp
  · intro i r h
    rcases snoc_at h with ⟨c, h⟩ | ⟨c, h⟩
    · rw [F.opn i r h, List.mem_append, List.mem_singleton]
      constructor
      · exact .inl
      · rintro (z | z)
        · exact z
        · omega
    · subst h
      rw [c]
      simp
  · intro r hr e he
    rcases List.mem_append.mp hr with h | h
    · have := F.dn r h e he
      exact ⟨this.1, Nat.le_trans this.2 ht⟩
    · rw [List.mem_singleton.mp h] at he; cases he
  · intro i r h
    rcases snoc_at h with ⟨c, h⟩ | ⟨c, h⟩
    · rcases F.par i r h with z | ⟨j, q, h1, h2, h3, h4⟩
      · exact .inl z
      · exact .inr ⟨j, q, h1, by rw [List.getElem?_append_left (lt_len h2)]; exact h2, h3, h4⟩
    · subst h
      show topRow (rows, way) = none ∨ _
      unfold topRow
      cases e : way.getLast? with
      | none => exact .inl rfl
      | some p =>
        have hp : p ∈ way := List.mem_of_getLast? e
        have hlt := F.wlt p hp
        have hq : rows[p]? = some rows[p] := List.getElem?_eq_getElem hlt
        refine .inr ⟨p, rows[p], by omega, by rw [List.getElem?_append_left hlt]; exact hq, ?_, ?_⟩
        · show (rows[p]?).map (·.n) = some (rows[p]).n
          rw [hq]
          rfl
        · intro e' he'
          have := (F.opn p _ hq).mpr hp
          rw [this] at he'
          cases he'
  · intro m p r h1 h2
    rcases snoc_at h1 with ⟨c, h⟩ | ⟨c, h⟩
    · have hlt := F.wlt p (List.mem_of_getElem? h)
      rw [List.getElem?_append_left hlt] at h2
      rw [F.ch m p r h h2]
      cases m with
      | zero => rfl
      | succ k =>
        have hk : k < way.length := by omega
        show (way[k]?).bind _ = ((way ++ [rows.length])[k]?).bind _
        rw [List.getElem?_append_left hk]
        have e : way[k]? = some way[k] := List.getElem?_eq_getElem hk
        rw [e]
        show (rows[way[k]]?).map _ = ((rows ++ _)[way[k]]?).map _
        rw [List.getElem?_append_left (F.wlt _ (List.getElem_mem hk))]
    · subst h
      rcases snoc_at h2 with ⟨c', h⟩ | ⟨c', h⟩
      · omega
      · subst h
        subst c
        show topRow (rows, way) = _
        unfold topRow
        cases e : way with
        | nil => rfl
        | cons a as =>
          have e2 : (a :: as).getLast? = (a :: as)[as.length]? := by
            rw [List.getLast?_eq_getElem?]
            rfl
          show ((a :: as).getLast?).bind _ = ((a :: as ++ [rows.length])[as.length]?).bind _
          rw [e2, List.getElem?_append_left (by simp)]
          have hlt : as.length < (a :: as).length := by simp
          rw [List.getElem?_eq_getElem hlt]
          show (rows[_]?).map _ = ((rows ++ _)[_]?).map _
          rw [List.getElem?_append_left (F.wlt _ (by rw [e]; exact List.getElem_mem hlt))]
theorem Fact.back {rows L t w p l s} {r : WRow} (F : Fact rows (w ++ [p]) L t) (hr : rows[p]? = some r) (hl : L[r.n]? = some l) (ht : t ≤ s) :
    Fact (rows.set p ⟨r.n, l, r.by_, r.b, some s⟩) w L s := by
  have hmem : ∀ x ∈ rows.set p ⟨r.n, l, r.by_, r.b, some s⟩, x = ⟨r.n, l, r.by_, r.b, some s⟩ ∨ x ∈ rows := by
    intro x hx
    obtain ⟨i, hi, e⟩ := List.mem_iff_getElem.mp hx
    have h : (rows.set p ⟨r.n, l, r.by_, r.b, some s⟩)[i]? = some x := by rw [List.getElem?_eq_getElem hi, e]
    rcases set_at hr h with ⟨_, z⟩ | ⟨_, z⟩
    · exact .inl z
    · exact .inr (List.mem_of_getElem? z)
  have hb : ∀ {i : Nat} {x : WRow}, (rows.set p ⟨r.n, l, r.by_, r.b, some s⟩)[i]? = some x → ∃ y : WRow, rows[i]? = some y ∧ y.n = x.n ∧ y.b = x.b ∧ y.by_ = x.by_ := by
    intro i x h
    rcases set_at hr h with ⟨z, e⟩ | ⟨z, e⟩
    · subst z e
      exact ⟨r, hr, rfl, rfl, rfl⟩
    · exact ⟨x, e, rfl, rfl, rfl⟩
  have hf : ∀ {i : Nat} {y : WRow}, rows[i]? = some y → ∃ x : WRow, (rows.set p ⟨r.n, l, r.by_, r.b, some s⟩)[i]? = some x ∧ y.n = x.n ∧ (i ≠ p → x = y) := by
    intro i y h
    by_cases e : p = i
    · subst e
      rw [hr] at h
      cases h
      exact ⟨_, List.getElem?_set_self (lt_len hr), rfl, fun z => absurd rfl z⟩
    · exact ⟨y, by rw [List.getElem?_set_ne e]; exact h, rfl, fun _ => rfl⟩
  have wl := List.pairwise_append.mp F.winc
  have pw : ∀ q ∈ w, q < p := fun q hq => wl.2.2 q hq p (List.mem_singleton.mpr rfl)
  have rb : r.b ≤ t := F.bt r (List.mem_of_getElem? hr)
  refine ⟨?_, ?_, ?_, ?_, wl.1, ?_, ?_, ?_, ?_, ?_⟩
  · rw [map_set_same (q := r) (r := ⟨r.n, l, r.by_, r.b, some s⟩) hr rfl]; exact F.nd
  · intro x hx
    rcases hmem x hx with e | e
    · subst e; exact hl
    · exact F.lab x e
  · intro i j a b hij ha hb'
    obtain ⟨a', h1, _, h2, _⟩ := hb ha
    obtain ⟨b', h3, _, h4, _⟩ := hb hb'
    rw [← h2, ← h4]
    exact F.begun i j a' b' hij h1 h3
  · intro x hx
    rcases hmem x hx with e | e
    · subst e; exact Nat.le_trans rb ht
    · exact Nat.le_trans (F.bt x e) ht
  · intro q hq
    rw [List.length_set]
    exact F.wlt q (List.mem_append_left _ hq)
  · intro i x h
    rcases set_at hr h with ⟨z, e⟩ | ⟨z, e⟩
    · subst z e
      constructor
      · intro c; cases c
      · intro c
        have := pw _ c
        omega
    · rw [F.opn i x e, List.mem_append, List.mem_singleton]
      constructor
      · rintro (c | c)
        · exact c
        · exact absurd c z
      · exact .inl
  · intro x hx e he
    rcases hmem x hx with c | c
    · subst c
      cases he
      exact ⟨Nat.le_trans rb ht, Nat.le_refl _⟩
    · have := F.dn x c e he
      exact ⟨this.1, Nat.le_trans this.2 ht⟩
  · intro i x h
    rcases set_at hr h with ⟨z, e⟩ | ⟨z, e⟩
    · subst z e
      rcases F.par _ r hr with c | ⟨j, q, h1, h2, h3, h4⟩
      · exact .inl c
      · obtain ⟨q', h5, h6, h7⟩ := hf h2
        have : q' = q := h7 (by omega)
        subst this
        refine .inr ⟨j, q', h1, h5, h3, fun e he => ?_⟩
        obtain ⟨e', he', _⟩ := h4 e he
        have c := (F.opn _ r hr).mpr (List.mem_append_right _ (List.mem_singleton.mpr rfl))
        rw [c] at he'
        cases he'
    · rcases F.par i x e with c | ⟨j, q, h1, h2, h3, h4⟩
      · exact .inl c
      · obtain ⟨q', h5, h6, h7⟩ := hf h2
        refine .inr ⟨j, q', h1, h5, by rw [h3, h6], fun e' he' => ?_⟩
        by_cases c : j = p
        · -- the one that is closed now: its own ones are closed
          subst c
          rcases set_at hr h5 with ⟨_, e2⟩ | ⟨c2, _⟩
          · subst e2
            cases he'
            cases hd : x.d with
            | none =>
              have := (F.opn i x e).mp hd
              rcases List.mem_append.mp this with c3 | c3
              · have := pw i c3
                omega
              · have := List.mem_singleton.mp c3
                omega
            | some e3 => exact ⟨e3, rfl, Nat.le_trans (F.dn x (List.mem_of_getElem? e) e3 hd).2 ht⟩
          · exact absurd rfl c2
        · have := h7 c
          subst this
          exact h4 e' he'
  · intro m q x h1 h2
    have hq : q ∈ w := List.mem_of_getElem? h1
    have hqp := pw q hq
    obtain ⟨y, h3, _, _, h4⟩ := hb h2
    have h5 : (w ++ [p])[m]? = some q := by rw [List.getElem?_append_left (lt_len h1)]; exact h1
    rw [← h4, F.ch m q y h5 h3]
    cases m with
    | zero => rfl
    | succ k =>
      have hk : k < w.length := by have := lt_len h1; omega
      show ((w ++ [p])[k]?).bind _ = (w[k]?).bind _
      rw [List.getElem?_append_left hk, List.getElem?_eq_getElem hk]
      show (rows[w[k]]?).map _ = _
      have hlt := F.wlt w[k] (List.mem_append_left _ (List.getElem_mem hk))
      have e1 : rows[w[k]]? = some rows[w[k]] := List.getElem?_eq_getElem hlt
      obtain ⟨z, e2, e3, _⟩ := hf e1
      show (rows[w[k]]?).map _ = ((rows.set p _)[w[k]]?).map _
      rw [e1, e2]
      exact congrArg some e3
theorem Good.fact {g L t} (h : Good g L t) : Fact (W g).1 (W g).2 L t := by
  induction h with
  | nil => exact Fact.none_
  | born l h ht ih =>
    rw [W_snoc]
    exact (ih.time ht).label l
  | again h hl ht ih =>
    rw [W_snoc]
    exact ih.time ht
  | enter h hl hn ht hb ih =>
    rw [W_snoc]
    exact ih.enter hl hn ht hb
  | back h hw hr hl ht ih =>
    rw [hw] at ih
    rw [W_snoc]
    unfold wstep
    rw [hw]
    simp only [List.getLast?_concat, List.dropLast_concat, hr]
    exact ih.back hr hl ht
theorem wback {st : WS} {w : List Nat} {p k s : Nat} {l : PySem.Str} {r : WRow} (hw : st.2 = w ++ [p]) (hr : st.1[p]? = some r) : wstep st ⟨.back, k, l, s⟩ = (st.1.set p ⟨k, l, r.by_, r.b, some s⟩, w) := by
  unfold wstep
  rw [hw]
  simp only [List.getLast?_concat, List.dropLast_concat, hr]
/-! births, entered, idle -/
theorem ents_eq {g L t} (h : Good g L t) : ents g = (W g).1.map (·.n) := by
  induction h with
  | nil => rfl
  | born l h ht ih =>
    rw [W_snoc]
    unfold ents at ih ⊢
    rw [List.filterMap_append, ih]
    show _ ++ [] = _
    rw [List.append_nil]
    rfl
  | again h hl ht ih =>
    rw [W_snoc]
    unfold ents at ih ⊢
    rw [List.filterMap_append, ih]
    show _ ++ [] = _
    rw [List.append_nil]
    rfl
  | enter h hl hn ht hb ih =>
    rw [W_snoc]
    unfold ents at ih ⊢
    rw [List.filterMap_append, ih]
    show _ = ((W _).1 ++ [_]).map _
    rw [List.map_append]
    rfl
  | @back g L t s l w p r h hw hr hl ht ih =>
    rw [W_snoc, wback hw hr]
    unfold ents at ih ⊢
    rw [List.filterMap_append, ih]
    show _ ++ [] = List.map _ (List.set _ _ _)
    rw [map_set_same (q := r) (r := ⟨r.n, l, r.by_, r.b, some s⟩) hr rfl, List.append_nil]
theorem births_at {g L t} (h : Good g L t) : ∀ i : Nat, (births g)[i]? = (L[i]?).map fun l => (i, l) := by
  have key : ∀ {g : List LRow} {r : LRow}, (match r.ev with | .born => some (r.n, r.l) | _ => none) = (none : Option (Nat × PySem.Str)) → births (g ++ [r]) = births g := by
    intro g r e
    unfold births
    rw [List.filterMap_append, List.filterMap_cons, e]
    show _ ++ [] = _
    rw [List.append_nil]
  induction h with
  | nil => intro i; rfl
  | @born g L t s l h ht ih =>
    have len : (births g).length = L.length := by
      apply Nat.le_antisymm
      · apply Nat.le_of_not_lt
        intro c
        have := ih L.length
        rw [List.getElem?_eq_getElem c, List.getElem?_eq_none_iff.mpr (Nat.le_refl _)] at this
        cases this
      · apply Nat.le_of_not_lt
        intro c
        have := ih (births g).length
        rw [List.getElem?_eq_getElem c, List.getElem?_eq_none_iff.mpr (Nat.le_refl _)] at this
        cases this
    intro i
    have e : births (g ++ [⟨.born, L.length, l, s⟩]) = births g ++ [(L.length, l)] := by
      unfold births
      rw [List.filterMap_append]
      rfl
    rw [e]
    by_cases c : i < L.length
    · rw [List.getElem?_append_left (by omega), List.getElem?_append_left c]
      exact ih i
    · rw [List.getElem?_append_right (by omega), List.getElem?_append_right (by omega), len]
      by_cases c2 : i - L.length = 0
      · rw [c2]
        have : i = L.length := by omega
        subst this
        rfl
      · rw [List.getElem?_eq_none_iff.mpr (by simp; omega), List.getElem?_eq_none_iff.mpr (by simp; omega)]
        rfl
  | again h hl ht ih => intro i; rw [key rfl]; exact ih i
  | enter h hl hn ht hb ih => intro i; rw [key rfl]; exact ih i
  | back h hw hr hl ht ih => intro i; rw [key rfl]; exact ih i
theorem births_len {g L t} (h : Good g L t) : (births g).length = L.length := by
  have ih := births_at h
  apply Nat.le_antisymm
  · apply Nat.le_of_not_lt
    intro c
    have := ih L.length
    rw [List.getElem?_eq_getElem c, List.getElem?_eq_none_iff.mpr (Nat.le_refl _)] at this
    cases this
  · apply Nat.le_of_not_lt
    intro c
    have := ih (births g).length
    rw [List.getElem?_eq_getElem c, List.getElem?_eq_none_iff.mpr (Nat.le_refl _)] at this
    cases this
theorem births_fst {g L t} (h : Good g L t) : (births g).map (·.1) = List.range L.length := by
  apply List.ext_getElem?
  intro i
  rw [List.getElem?_map, births_at h]
  by_cases c : i < L.length
  · rw [List.getElem?_eq_getElem c, List.getElem?_range c]
    rfl
  · rw [List.getElem?_eq_none_iff.mpr (by omega), List.getElem?_eq_none_iff.mpr (by simp; omega)]
    rfl
theorem births_nd {g L t} (h : Good g L t) : ((births g).map (·.1)).Nodup := by
  rw [births_fst h]
  exact List.nodup_range
theorem birth_lab {g L t} (h : Good g L t) {p : Nat × PySem.Str} (hp : p ∈ births g) : L[p.1]? = some p.2 := by
  obtain ⟨i, hi, e⟩ := List.mem_iff_getElem.mp hp
  have := births_at h i
  rw [List.getElem?_eq_getElem hi, e] at this
  cases c : L[i]? with
  | none => rw [c] at this; cases this
  | some l =>
    rw [c] at this
    have e2 : p = (i, l) := Option.some.inj this
    rw [e2]
    exact c
theorem birth_in {g L t} (h : Good g L t) {k : Nat} {l : PySem.Str} (hk : L[k]? = some l) : (k, l) ∈ births g := by
  have := births_at h k
  rw [hk] at this
  exact List.mem_of_getElem? this
theorem count_range : ∀ (N : Nat) (S : List Nat), S.Nodup → (∀ x ∈ S, x < N) → S.length + ((List.range N).filter fun k => !S.contains k).length = N
  | 0, S, _, h => by
    cases S with
    | nil => rfl
    | cons a as => exact absurd (h a (List.mem_cons_self)) (by omega)
  | N + 1, S, nd, h => by
    rw [List.range_succ, List.filter_append, List.length_append]
    by_cases c : N ∈ S
    · have ih := count_range N (S.erase N) (nd.erase N) (fun x hx => by
        have h1 := h x (List.mem_of_mem_erase hx)
        have h2 : x ≠ N := ((List.Nodup.mem_erase_iff nd).mp hx).1
        omega)
      have e1 : ((List.range N).filter fun k => !(S.erase N).contains k) = ((List.range N).filter fun k => !S.contains k) := by
        apply List.filter_congr
        intro k hk
        have hlt : k < N := List.mem_range.mp hk
        have : (S.erase N).contains k = S.contains k := by
          rw [Bool.eq_iff_iff, List.contains_iff_mem, List.contains_iff_mem, List.Nodup.mem_erase_iff nd]
          constructor
          · exact fun z => z.2
          · exact fun z => ⟨by omega, z⟩
        rw [this]
      rw [e1, List.length_erase_of_mem c] at ih
      have e2 : ([N].filter fun k => !S.contains k) = [] := by simp [c]
      have : 0 < S.length := List.length_pos_of_mem c
      rw [e2]
      simp only [List.length_nil]
      omega
    · have ih := count_range N S nd (fun x hx => by
        have h1 := h x hx
        have : x ≠ N := fun e => c (e ▸ hx)
        omega)
      have e2 : ([N].filter fun k => !S.contains k) = [N] := by simp [c]
      rw [e2]
      simp only [List.length_cons, List.length_nil]
      omega
theorem idle_count {g L t} (h : Good g L t) : (W g).1.length + (idles g).length = (births g).length := by
  have F := h.fact
  have e : (idles g).length = ((List.range L.length).filter fun k => !(ents g).contains k).length := by
    rw [← births_fst h, List.filter_map, List.length_map]
    rfl
  rw [e, births_len h]
  have := count_range L.length (ents g) (by rw [ents_eq h]; exact F.nd) (fun x hx => by
    rw [ents_eq h] at hx
    obtain ⟨r, hr, e⟩ := List.mem_map.mp hx
    rw [← e]
    exact lt_len (F.lab r hr))
  rw [ents_eq h, List.length_map] at this
  rw [ents_eq h]
  exact this
theorem idle_mem {g : List LRow} {p : Nat × PySem.Str} (h : p ∈ idles g) : p ∈ births g ∧ ¬ p.1 ∈ ents g := by
  obtain ⟨h1, h2⟩ := List.mem_filter.mp h
  refine ⟨h1, fun c => ?_⟩
  have : (ents g).contains p.1 = true := List.contains_iff_mem.mpr c
  rw [this] at h2
  cases h2
theorem idle_nd {g L t} (h : Good g L t) : ((idles g).map (·.1)).Nodup :=
  (births_nd h).sublist (List.Sublist.map _ List.filter_sublist)
/-! why -/
inductive Chain (rows : List WRow) : Option Nat → List Nat → Prop
  | nil : Chain rows none []
  | cons {r : WRow} {l : List Nat} (h : r ∈ rows) (c : Chain rows r.by_ l) : Chain rows (some r.n) (r.n :: l)
theorem row_inj {rows : List WRow} (nd : (rows.map (·.n)).Nodup) {a b : WRow} (ha : a ∈ rows) (hb : b ∈ rows) (e : a.n = b.n) : a = b := by
  obtain ⟨i, hi, e1⟩ := List.mem_iff_getElem.mp ha
  obtain ⟨j, hj, e2⟩ := List.mem_iff_getElem.mp hb
  have h1 : rows[i]? = some a := by rw [List.getElem?_eq_getElem hi, e1]
  have h2 : rows[j]? = some b := by rw [List.getElem?_eq_getElem hj, e2]
  have := nd_eq nd h1 h2 e
  subst this
  rw [h1] at h2
  exact Option.some.inj h2
theorem Chain.uniq {rows : List WRow} (nd : (rows.map (·.n)).Nodup) {o : Option Nat} {l l' : List Nat} (h : Chain rows o l) (h' : Chain rows o l') : l = l' := by
  induction h generalizing l' with
  | nil => cases h'; rfl
  | @cons r l hr c ih =>
    generalize eo : some r.n = o at h'
    cases h' with
    | nil => cases eo
    | @cons r' l2 hr' c' =>
      have e := row_inj nd hr hr' (Option.some.inj eo)
      subst e
      rw [ih c']
theorem Chain.make {rows way L t} (F : Fact rows way L t) : ∀ (n i : Nat) (r : WRow), i < n → rows[i]? = some r → ∃ l, l.length ≤ i + 1 ∧ Chain rows (some r.n) l
  | 0, i, r, h, _ => absurd h (by omega)
  | n + 1, i, r, h, hr => by
    rcases F.par i r hr with c | ⟨j, q, h1, h2, h3, _⟩
    · exact ⟨[r.n], by simp, .cons (List.mem_of_getElem? hr) (by rw [c]; exact .nil)⟩
    · obtain ⟨l, hl, hc⟩ := Chain.make F n j q (by omega) h2
      exact ⟨r.n :: l, by simp; omega, .cons (List.mem_of_getElem? hr) (by rw [h3]; exact hc)⟩
/-! a log's beginnings -/
theorem Good.pre {g L t} (h : Good g L t) : ∀ i, i ≤ g.length → ∃ L' t', Good (g.take i) L' t' := by
  have key : ∀ {g : List LRow} {r : LRow} {L L' : List PySem.Str} {t t' : Nat}, (∀ i, i ≤ g.length → ∃ L' t', Good (g.take i) L' t') → Good (g ++ [r]) L' t' → ∀ i, i ≤ (g ++ [r]).length → ∃ L' t', Good ((g ++ [r]).take i) L' t' := by
    intro g r L L' t t' ih h i hi
    rw [List.length_append] at hi
    by_cases c : i ≤ g.length
    · rw [List.take_append_of_le_length c]
      exact ih i c
    · rw [List.take_of_length_le (by rw [List.length_append]; simp at hi ⊢; omega)]
      exact ⟨_, _, h⟩
  induction h with
  | nil => intro i hi; exact ⟨[], 0, by simp; exact .nil⟩
  | @born g L t s l h ht ih => exact key (L := L) (t := t) ih (.born l h ht)
  | @again g L t s k l h hl ht ih => exact key (L := L) (t := t) ih (.again h hl ht)
  | @enter g L t s k l h hl hn ht hb ih => exact key (L := L) (t := t) ih (.enter h hl hn ht hb)
  | @back g L t s l w p r h hw hr hl ht ih => exact key (L := L) (t := t) ih (.back h hw hr hl ht)
/-- what a row of a log finds: of a way back, the row that it closes -/
theorem Good.turn {g L t} (h : Good g L t) {i : Nat} {r : LRow} (hi : g[i]? = some r) (hb : r.ev = .back) :
    ∃ w p q, (W (g.take i)).2 = w ++ [p] ∧ (W (g.take i)).1[p]? = some q := by
  induction h with
  | nil => simp at hi
  | @born g L t s l h ht ih =>
    rcases snoc_at hi with ⟨c, e⟩ | ⟨c, e⟩
    · rw [List.take_append_of_le_length (by omega)]; exact ih e
    · subst e; cases hb
  | @again g L t s k l h hl ht ih =>
    rcases snoc_at hi with ⟨c, e⟩ | ⟨c, e⟩
    · rw [List.take_append_of_le_length (by omega)]; exact ih e
    · subst e; cases hb
  | @enter g L t s k l h hl hn ht hb' ih =>
    rcases snoc_at hi with ⟨c, e⟩ | ⟨c, e⟩
    · rw [List.take_append_of_le_length (by omega)]; exact ih e
    · subst e; cases hb
  | @back g L t s l w p r' h hw hr hl ht ih =>
    rcases snoc_at hi with ⟨c, e⟩ | ⟨c, e⟩
    · rw [List.take_append_of_le_length (by omega)]; exact ih e
    · subst c
      rw [List.take_append_of_le_length (Nat.le_refl _), List.take_length]
      exact ⟨w, p, r', hw, hr⟩
theorem take_snoc {α : Type} {l : List α} {i : Nat} {x : α} (h : l[i]? = some x) : l.take (i + 1) = l.take i ++ [x] := by
  have hlt := lt_len h
  rw [List.take_add_one, h]
  rfl
theorem W_take {g : List LRow} {i : Nat} {r : LRow} (h : g[i]? = some r) : W (g.take (i + 1)) = wstep (W (g.take i)) r := by
  rw [take_snoc h, W_snoc]
/-! the open ones -/
theorem opens {rows way L t} (F : Fact rows way L t) : rows.filter (fun r => r.d.isNone) = way.filterMap fun p => rows[p]? := by
  have key : ∀ (l : List WRow) (k : Nat) (way : List Nat), way.Pairwise (· < ·) → (∀ p ∈ way, k ≤ p ∧ p < k + l.length) → (∀ i r, l[i]? = some r → (r.d = none ↔ k + i ∈ way)) →
      l.filter (fun r => r.d.isNone) = way.filterMap fun p => l[p - k]? := by
    intro l
    induction l with
    | nil =>
      intro k way hp hb ho
      cases way with
      | nil => rfl
      | cons a as => have := hb a List.mem_cons_self; simp at this; omega
    | cons r l ih =>
      intro k way hp hb ho
      have h0 := ho 0 r rfl
      have tl : ∀ as : List Nat, (∀ p ∈ as, k + 1 ≤ p) → as.filterMap (fun p => (r :: l)[p - k]?) = as.filterMap fun p => l[p - (k + 1)]? := by
        intro as
        induction as with
        | nil => intro _; rfl
        | cons p ps ihp =>
          intro has
          have h1 := has p List.mem_cons_self
          have e : p - k = (p - (k + 1)) + 1 := by omega
          rw [List.filterMap_cons, List.filterMap_cons, e, List.getElem?_cons_succ, ihp fun q hq => has q (List.mem_cons_of_mem _ hq)]
      cases c : r.d with
      | none =>
        have hk : k ∈ way := by have := h0.mp c; simpa using this
        cases way with
        | nil => cases hk
        | cons a as =>
          have hp' := List.pairwise_cons.mp hp
          have ea : a = k := by
            rcases List.mem_cons.mp hk with z | z
            · exact z.symm
            · have := hp'.1 k z
              have := (hb a List.mem_cons_self).1
              omega
          subst ea
          have has : ∀ p ∈ as, a + 1 ≤ p := fun p hp2 => hp'.1 p hp2
          rw [List.filter_cons_of_pos (by rw [c]; rfl), List.filterMap_cons, Nat.sub_self]
          show r :: _ = r :: _
          rw [tl as has]
          congr 1
          refine ih (a + 1) as hp'.2 (fun p hp2 => ⟨has p hp2, ?_⟩) (fun i x hx => ?_)
          · have := (hb p (List.mem_cons_of_mem _ hp2)).2
            simp at this
            omega
          · have := ho (i + 1) x (by simpa using hx)
            rw [this]
            have e : a + (i + 1) = a + 1 + i := by omega
            rw [e]
            constructor
            · intro z
              rcases List.mem_cons.mp z with z | z
              · omega
              · exact z
            · exact List.mem_cons_of_mem _
      | some e =>
        have hk : ¬ k ∈ way := by
          intro z
          have := h0.mpr (by simpa using z)
          rw [this] at c
          cases c
        have has : ∀ p ∈ way, k + 1 ≤ p := fun p hp2 => by
          have h1 := (hb p hp2).1
          have : p ≠ k := fun z => hk (z ▸ hp2)
          omega
        rw [List.filter_cons_of_neg (by rw [c]; simp), tl way has]
        refine ih (k + 1) way hp (fun p hp2 => ⟨has p hp2, ?_⟩) (fun i x hx => ?_)
        · have := (hb p hp2).2
          simp at this
          omega
        · have := ho (i + 1) x (by simpa using hx)
          rw [this]
          have e : k + (i + 1) = k + 1 + i := by omega
          rw [e]
  have := key rows 0 way F.winc (fun p hp => ⟨Nat.zero_le _, by have := F.wlt p hp; omega⟩) (fun i r h => by rw [Nat.zero_add]; exact F.opn i r h)
  simpa using this
theorem wayRows {rows way L t} (F : Fact rows way L t) : ∀ m p : Nat, way[m]? = some p → (way.filterMap fun p => rows[p]?)[m]? = rows[p]? := by
  have : ∀ (w : List Nat), (∀ p ∈ w, p < rows.length) → ∀ m p : Nat, w[m]? = some p → (w.filterMap fun p => rows[p]?)[m]? = rows[p]? := by
    intro w
    induction w with
    | nil => intro _ m p h; simp at h
    | cons a as ih =>
      intro hb m p h
      have ha := hb a List.mem_cons_self
      rw [List.filterMap_cons, List.getElem?_eq_getElem ha]
      cases m with
      | zero =>
        have : a = p := by simpa using h
        subst this
        show some _ = _
        rw [List.getElem?_eq_getElem ha]
      | succ k =>
        show (as.filterMap _)[k]? = _
        exact ih (fun p hp => hb p (List.mem_cons_of_mem _ hp)) k p (by simpa using h)
  exact this way F.wlt
theorem wayLen {rows way L t} (F : Fact rows way L t) : (way.filterMap fun p => rows[p]?).length = way.length := by
  have : ∀ (w : List Nat), (∀ p ∈ w, p < rows.length) → (w.filterMap fun p => rows[p]?).length = w.length := by
    intro w
    induction w with
    | nil => intro _; rfl
    | cons a as ih =>
      intro hb
      rw [List.filterMap_cons, List.getElem?_eq_getElem (hb a List.mem_cons_self)]
      show _ + 1 = _ + 1
      rw [ih fun p hp => hb p (List.mem_cons_of_mem _ hp)]
  exact this way F.wlt
end W83

namespace W83
open PySem PySem.Spec PyProof.Rows L2
section
variable {X : Cx} {CX : CXT} {k : Nat} {f C : Addr} {fd : FuncData} {ps : List Str} {sp : Sp} {dvs : List V} {ds : List Value} {E : XK} {x m : Str} {p pos apos : Pos} {e o : Expr} {es : List Expr} {ta : TE} {t : TA}
/-! ### a def that is read off a class and called: C.m(a, ..) -/
def tClsFn (C : Addr) (sp : Sp) (dvs : List V) (E : XK) (ta : TE) (t : TA) : TE := fun σ H Q => ta σ H fun v G => v = .ref C ∧ t σ G fun vs G2 => sp (vs ++ dvs) G2 Q E
theorem pe_clsfn {mc : Value} {pl : Sem Bool} (ho : PE X o ta) (rd : ClX.CRead X.K C mc) (cv : PySem.W.findCls X.K (.ref C) mc m = some (.val (.ref f))) (kf : PySem.W.keepIn X.K (.ref f) = true)
    (F : FnOk X.prog X.w X.K X.mg X.base CX k f fd ps sp) (hr : Room k X.A) (hb : Binds X.K fd ps ds) (hd : Vals dvs ds) (hx : Passes CX X E) (ha : PA X (e :: es) t)
    (h1 : starEach (e :: es) X.env = (false, eval e X.env) :: starEach es X.env := by rfl) (h2 : (backTo pos (starEach es X.env)).any (·.1) = false := by rfl)
    (h3 : eval (.Call (.Attribute o m apos) (e :: es) [] pos) X.env = (do
      let whole ← eval o X.env
      standAt apos.atName
      let (g, fst) ← holding [whole] (getMethod whole m pl)
      callWith pos g fst (backTo pos (starEach (e :: es) X.env)) (backToKw pos (keywordEach [] X.env))) := by rfl) :
    PE X (.Call (.Attribute o m apos) (e :: es) [] pos) (tClsFn C sp dvs E ta t) := by
  constructor
  intro pins s σ H Q I hh
  refine PySem.W.methodCall_KW (pl := pl) (thn (ho.run pins s σ H _ I hh) ?_) h3
  rintro u s1 ⟨v, G, J, rv, ev, hq⟩
  subst ev
  have eu : u = Value.ref C := rv
  subst eu
  refine PySem.W.method_cls J.kIn rd.ga (PySem.W.cls_value J.kIn rd.rd cv rfl ?_)
  have J2 := J.tok (s1.toks + 1)
  refine PySem.W.callWith_K (first := []) (h₀ := X.base) I.ok.mod.kin kf (thn (ha.run pos pins _ σ G _ J2 hq) ?_) h1 h2
  rintro us s2 ⟨vs, G2, J3, rvs, hq2⟩
  exact ⟨J3.kIn, run_fn (us := us) (vs := vs) F hr hb hd hx J3 rvs hq2⟩
/-! ### C() of a class whose __init__ is object's -/
structure MkO (K : PySem.W.Frag) (C : Addr) : Prop where
  makes : PySem.W.makesIn K C = true
  init : PySem.W.findIn K (.ref C) "__init__" = some (some (.builtin "object.__init__"))
  top : PySem.W.mroIn K C (.type "object") = some true
  kp : PySem.W.keepIn K (.ref C) = true
def tMkO0 (C : Addr) : TE := fun _ H Q => ∀ a dx, H a = none → H dx = none → dx ≠ a → Q (.ref a) (upd (upd H dx (.own a)) a (.ins C dx []))
theorem pe_mkO (M : MkO X.K C) (hg : Gl X x) (hm : X.mg x = some (.ref C)) (hdb : (x == ("__debug__" : Str)) = false := by decide) : PE X (.Call (.Name x p) [] [] pos) (tMkO0 C) := by
  constructor
  intro pins s σ H Q I hh
  refine wpAny_Call_Name_kw (ld_glob I hg hm ?_ hdb)
  refine PySem.W.callWith_K0 I.kIn M.kp (wpAny_call (make_map0 I.kIn M.makes M.init (fun self => PySem.W.Looks.of_pure (PySem.W.oi_bind self)) ?_))
  have J := Inv.made (C := C) I
  obtain ⟨hp, g, d, t, os⟩ := s
  have hq := hh (hp.objs.size + 1) hp.objs.size (I.hok.fresh (Nat.le_succ _)) (I.hok.fresh (Nat.le_refl _)) (Nat.ne_of_lt (Nat.lt_succ_self _))
  have g1 : ((hp.push PySem.W.emptyDict).push (PySem.W.instObj C hp.objs.size)).get? (hp.objs.size + 1) = some (PySem.W.instObj C hp.objs.size) := by
    have z := Heap.get?_push_size (hp.push PySem.W.emptyDict) (o := PySem.W.instObj C hp.objs.size) rfl
    rw [Heap.size_push] at z
    exact z
  have t1 : PySem.W.Looks (model X.prog X.w) ((hp.push PySem.W.emptyDict).push (PySem.W.instObj C hp.objs.size)) (typeOf (.ref (hp.objs.size + 1))) (.ref C) := (PySem.W.Looks.ld g1).andThen .now
  have t2 : PySem.W.Looks (model X.prog X.w) ((hp.push PySem.W.emptyDict).push (PySem.W.instObj C hp.objs.size)) (isInstance (.ref (hp.objs.size + 1)) (.type "object")) true :=
    t1.andThen (PySem.W.looks_mroIn J.kIn M.top)
  refine codeAny_call_builtin PySem.W.oi_plain PySem.W.entry_oi (@PySem.W.check_slot (model X.prog X.w) _ _ _ "object.__init__" "object" "__init__" (.ref (hp.objs.size + 1)) [] [] _ PySem.W.oi_kind PySem.W.oi_split t2 (PySem.W.oi_args (.ref (hp.objs.size + 1))) ?_)
  rw [PySem.W.oi_run]
  exact wpAny_pure ⟨rfl, V.ref (hp.objs.size + 1), _, J, rfl, hq⟩
/-! ### d.update(e), both dicts with int and text keys -/
def rUpdate : V → List V → Hp → VK → Prop := fun v vs H Q => ∃ (d b : Addr) (kvs more : List (Key × V)), v = .ref d ∧ vs = [.ref b] ∧ d ≠ b ∧ H d = some (.dK kvs) ∧ H b = some (.dK more) ∧ kvs.length + more.length ≤ sizeLine ∧ Q .non (upd H d (.dK (mergeK kvs more)))
theorem mt_update : MtR X "dict.update" rUpdate := by
  intro pins s σ H v vs u us Q I ru rus hh
  obtain ⟨d, b, kvs, more, rfl, rfl, hne, hd, hb, hlen, hq⟩ := hh
  obtain ⟨z1, lo1, vs1, rel1, dd1⟩ := dk_of I.hok hd
  obtain ⟨z2, lo2, vs2, rel2, dd2⟩ := dk_of I.hok hb
  have eu : u = Value.ref d := ru
  subst eu
  obtain ⟨w1, e1, rw1⟩ := vals1 rus
  subst e1
  have ew : w1 = Value.ref b := rw1
  subst ew
  refine call_meetsIn PySem.F.slot_dict_update dd1.typeIs PySem.F.entry_dict_update (PySem.F.args_dict_update_2 _ _) (meets_dict_update (mixKind X.prog X.w) d b hne lo2)
    ⟨vs1, vs2, dd1, dd2, by rw [← rel1.length, ← rel2.length]; exact hlen, fun h' hd' _ hs => ?_⟩
  have hl : (mergeK kvs more).length ≤ sizeLine := Nat.le_trans (length_mergeK more kvs) hlen
  obtain ⟨oD, _, _, hoD, _⟩ := id hd'
  exact ⟨.non, upd H d (.dK (mergeK kvs more)), d_write (t' := s.toks) I (by rw [hd]; trivial) hs ⟨_, hoD⟩ (dk_new hl lo1 (KV.merge rel2 rel1) hd'), rfl, hq⟩
end
theorem callWith_typeK {M : Model} {A : Around} {E : Value → Shared → Prop} {s : Shared} {pos : Pos} {T : String} {args : List (Bool × Sem Value)} {kw : List (Option Str × Sem Value)} {Q : Value → Shared → Prop} (h1 : args.any (·.1) = false) (h2 : kw.any (·.1.isNone) = false)
    (h : wpAny M A (evalArgs (.type T) true args kw) (fun z s₁ => wpAny M A (call (.type T) ([] ++ z.pos) z.kw) Q E s₁) E s) : wpAny M A (callWith pos (.type T) [] args kw) Q E s := by
  unfold callWith
  apply wpAny_bind
  apply wpAny_holding
  apply wpAny_mono h ?_ (fun _ _ z => z)
  intro z s1 hz
  apply wpAny_bind
  apply wpAny_standAt
  simp only [h1, h2, Bool.or_false]
  apply wpAny_bind
  apply wpAny_pure
  apply wpAny_bind
  apply wpAny_mono hz ?_ (fun _ _ z => z)
  intro r s2 hr
  exact wpAny_bind (wpAny_holding (wpAny_point (wpAny_pure hr)))
/-! ### enumerate(t, start=1), t a tuple -/
/-- the tuple at a as it stands, each item behind its number in a new pair -/
def IteT (K : PySem.W.Frag) (a : Addr) (k0 : Int) : It where
  go := fun i H => ∃ (xs : List V) (v : V), SqT K H a xs ∧ xs[i]? = some v
  yld := fun i H v H' => ∃ T v1, v = .ref T ∧ H T = none ∧ H' = upd H T (.tup [.int (k0 + (i : Int)), v1]) ∧ ∀ xs, SqT K H a xs → xs[i]? = some v1
  stop := fun i H => ∃ xs : List V, SqT K H a xs ∧ xs.length = i
theorem turn_enumT {P : Program} {w : World} {K : PySem.W.Frag} {elts : List Expr} {kk : Nat} {tpos : Pos} (a e it : Addr) (k0 : Int) :
    Turn P w K (.Tuple elts kk tpos) (IteT K a k0) [e, it] e (fun i h => (∃ old, IsEnum h e it (k0 + (i : Int)) old) ∧ h.IsTupleIter it a i ∧ e ≠ it) where
  mem := List.mem_cons_self
  obj := fun i h st b hb => by
    obtain ⟨⟨old, he⟩, ⟨ob, ho, hc, hd⟩, _⟩ := st
    rcases (by simpa using hb : b = e ∨ b = it) with z | z
    · subst z; exact ⟨_, he, fun v q => nomatch q⟩
    · subst z; exact ⟨ob, ho, fun v q => by rw [hd] at q; cases q⟩
  keep := fun i h h' st kp => by
    obtain ⟨⟨old, he⟩, hi, hne⟩ := st
    exact ⟨⟨old, kp e (by simp) _ he⟩, hi.at fun ob q => kp it (by simp) ob q, hne⟩
  item := by
    intro X hP hw hK hc i pins s σ H E I hf st hg
    subst hP hw hK
    obtain ⟨⟨old, he⟩, hit, hne⟩ := st
    obtain ⟨xs, v1, hq, hx⟩ := hg
    obtain ⟨its, rv, pt, hz⟩ := I.tuple hq
    have pt' : s.heap.IsTuple a its.toArray := pt
    have nn : X.A.in1.handled = none := I.ok.hd hc
    obtain ⟨oa, hoa, hca, na, hda⟩ := id pt'
    have hae : a ≠ e := fun z => by
      rw [z, he] at hoa
      cases hoa
      cases hda
    obtain ⟨oi, hoi, hci, hdi⟩ := id hit
    have hai : a ≠ it := fun z => by
      rw [z, hoi] at hoa
      cases hoa
      rw [hdi] at hda
      cases hda
    have hel : e < s.heap.objs.size := Heap.lt_size he
    have hil : it < s.heap.objs.size := Heap.lt_size hoi
    have hlt : i < its.toArray.size := by
      have q1 := (List.getElem?_eq_some_iff.mp hx).1
      rw [List.size_toArray, ← rv.length]
      exact q1
    refine wpAny_pyNext_enum_itemC (Draws.tuple (prog := X.prog) (w := X.w) nn it a hai its.toArray) he ⟨hit, pt'⟩ hlt hne (by simp [hne, Ne.symm hae]) ?_
    intro u h' tk hu ho ⟨hit', _⟩ hT hsz hk
    refine ⟨_, rfl, wpAny_letOwnedTupleGo_enum (s := { s with heap := h', toks := tk + 1 }) ho ?_⟩
    intro h2 he2 sb
    have hT2 : h2.get? s.heap.objs.size = some { cls := .type "tuple", data := .seq #[.int (k0 + (i : Int)) tk, u] } := (sb.2 _ (Nat.ne_of_gt hel)).trans hT
    obtain ⟨u2, hu2, ru⟩ := rv.get hx
    have eu : u2 = u := by
      have q1 : its.toArray[i]? = some u2 := by simpa using hu2
      rw [hu] at q1
      exact (Option.some.inj q1).symm
    subst eu
    have new : ObjOk X.prog X.w (upd H s.heap.objs.size (.tup [.int (k0 + (i : Int)), v1])) h2 s.heap.objs.size (.tup [.int (k0 + (i : Int)), v1]) :=
      ⟨by show 2 ≤ sizeLine; decide, [.int (k0 + (i : Int)) tk, u2], .cons ⟨_, rfl⟩ (.cons ru .nil), ⟨_, hT2, rfl, _, rfl⟩⟩
    have J : Inv X pins σ (upd H s.heap.objs.size (.tup [.int (k0 + (i : Int)), v1])) { s with heap := h2, toks := tk + 1 } :=
      I.turnedNew (ch := [e, it]) (fun b ob hb q => (sb.2 b (fun z => hb (by simp [z]))).trans (hk b ob (fun z => hb (by simp [z])) (fun z => hb (by simp [z])) q)) hf (Nat.le_refl _) new
    refine ⟨.ref s.heap.objs.size, _, J, rfl, ⟨_, v1, rfl, I.hok.fresh (Nat.le_refl _), rfl, fun ys hy => by rw [I.tuple_inj hy hq]; exact hx⟩, ⟨⟨u2, ?_⟩, hit'.at fun ob q => (sb.2 it (Ne.symm hne)).trans q, hne⟩, fun b hb => ?_⟩
    · have e1 : k0 + ((i + 1 : Nat) : Int) = k0 + (i : Int) + 1 := by omega
      rw [e1]; exact he2
    · have hb' : b < s.heap.objs.size := by
        rcases (by simpa using hb : b = e ∨ b = it) with z | z
        · rw [z]; exact hel
        · rw [z]; exact hil
      rw [upd_ne (Nat.ne_of_lt hb')]
      exact (hf b hb).1
  done := by
    intro X hP hw hK hc i pins s σ H E I hf st hg
    subst hP hw hK
    obtain ⟨⟨old, he⟩, hit, hne⟩ := st
    obtain ⟨xs, hq, hx⟩ := hg
    obtain ⟨its, rv, pt, hz⟩ := I.tuple hq
    have pt' : s.heap.IsTuple a its.toArray := pt
    have nn : X.A.in1.handled = none := I.ok.hd hc
    obtain ⟨oa, hoa, hca, na, hda⟩ := id pt'
    obtain ⟨oi, hoi, hci, hdi⟩ := id hit
    obtain ⟨f0, f1, f2, f3, f4, f5⟩ := hf it (by simp)
    have ei : i = its.toArray.size := by rw [List.size_toArray, ← rv.length]; exact hx.symm
    have hai : a ≠ it := fun z => by
      rw [z, hoi] at hoa
      cases hoa
      rw [hdi] at hda
      cases hda
    refine wpAny_pyNext_enum_endD (Draws.tuple (prog := X.prog) (w := X.w) nn it a hai its.toArray) he ⟨by rw [← ei]; exact hit, pt'⟩ ?_
    intro h' eb
    exact ⟨rfl, I.turned (t' := s.toks) (fun b ob hb q => eb b ob hb q) f0 f1 f3 f4 f5⟩
  self := fun A i s Q E st hh => by
    obtain ⟨⟨_, he⟩, _⟩ := st
    exact wpAny_pyIter_enum he hh
def iEnumT (K : PySem.W.Frag) (k0 : Int) (ta : TA) : TI := fun σ H R => ta σ H fun vs G => ∃ (a : Addr) (xs : List V), vs = [.ref a] ∧ SqT K G a xs ∧ R (IteT K a k0) G
theorem pi_enumT {X : Cx} {e : Expr} {ta : TA} {p pos tpos kp cp : Pos} {elts : List Expr} {kk cj : Nat} {k0 : Int} (hg : Gl X "enumerate") (hm : X.mg "enumerate" = none) (ha : PA X [e] ta) (h0 : -(2 ^ 63) ≤ k0) (h1 : k0 < 2 ^ 63)
    (hs : starEach [e] X.env = [(false, eval e X.env)] := by rfl) :
    PI X (.Tuple elts kk tpos) (.Call (.Name "enumerate" p) [e] [⟨some "start", .Constant (.int k0) cj cp, kp⟩] pos) (iEnumT X.K k0 ta) := by
  constructor
  intro pins s σ H R I hh
  refine wpAny_Call_Name_kw (ld_blt I hg hm boot_enumerate ?_)
  refine callWith_typeK (by rw [hs]; rfl) (by rfl) ?_
  rw [hs]
  refine evalArgs_kwB (by rfl) ?_
  have z := ha.run pos pins s σ H _ I hh
  rw [hs] at z
  refine thn z ?_
  rintro us s1 ⟨vs, G, J, rus, a, xs, ev, hq, hR⟩
  subst ev
  obtain ⟨u, eu, ru⟩ := vals1 rus
  subst eu
  have eu : u = Value.ref a := ru
  subst eu
  refine kws_cons (wpAny_Constant_int (kws_nil ?_))
  have J1 := J.tok (s1.toks + 1)
  obtain ⟨its, rv, pt, hz⟩ := J1.tuple hq
  show wpAny _ _ (call (.type "enumerate") [.ref a] [(_, .int k0 _)]) _ _ _
  refine enum_begins_start (begins_tuple a its.toArray) pt h0 h1 ?_
  intro h' he hit hsz hk
  refine wpAny_pyIter_enum he ?_
  have J2 : Inv X pins σ G { s1 with heap := h', toks := s1.toks + 1 } := J1.kept (t' := s1.toks + 1) hk
  have hit' : h'.IsTupleIter s1.heap.objs.size a 0 := ⟨_, hit, rfl, rfl⟩
  refine ⟨s1.heap.objs.size + 1, [s1.heap.objs.size + 1, s1.heap.objs.size], _, _, G, rfl, J2, turn_enumT a (s1.heap.objs.size + 1) s1.heap.objs.size k0, ⟨⟨.none, by simpa using he⟩, hit', Nat.succ_ne_self _⟩, ?_, hR⟩
  intro b hb
  have hle : s1.heap.objs.size ≤ b := by
    rcases (by simpa using hb : b = s1.heap.objs.size + 1 ∨ b = s1.heap.objs.size) with z | z
    · rw [z]; exact Nat.le_add_right _ _
    · rw [z]; exact Nat.le_refl _
  exact J1.fpOk hle (J1.hok.fresh hle)
theorem for_enumT {K : PySem.W.Frag} {a : Addr} {k0 : Int} {xs : List V} {g : TG} {tb : TS} {D : Ends} {σ : L2.St} {H : Hp} (Pv : Nat → L2.St → Hp → Prop) (h0 : Pv 0 σ H) (hl : ∀ i σ H, Pv i σ H → SqT K H a xs)
    (hs : ∀ (i : Nat) (v : V) (T : Addr) (σ : L2.St) (H : Hp), xs[i]? = some v → Pv i σ H → H T = none → g (.ref T) σ (upd H T (.tup [.int (k0 + (i : Int)), v])) fun σ2 G => tb { D with nx := Pv (i + 1), ct := Pv (i + 1), bk := D.nx } σ2 G)
    (hd : ∀ σ H, Pv xs.length σ H → D.nx σ H) :
    ∃ W : Nat → Nat → L2.St → Hp → Prop, (∃ m, W 0 m σ H) ∧ ∀ i m σ H, W i m σ H →
      ((IteT K a k0).stop i H ∧ D.nx σ H) ∨ ((IteT K a k0).go i H ∧ ∃ N : L2.St → Hp → Prop, (∀ σ' H', N σ' H' → ∃ m', m' < m ∧ W (i + 1) m' σ' H') ∧ ∀ v H', (IteT K a k0).yld i H v H' → g v σ H' fun σ2 G => tb { D with nx := N, ct := N, bk := D.nx } σ2 G) := by
  refine ⟨fun i m σ H => m = xs.length - i ∧ i ≤ xs.length ∧ Pv i σ H, ⟨xs.length, by simp, Nat.zero_le _, h0⟩, ?_⟩
  rintro i m σ H ⟨em, hi, pp⟩
  subst em
  have hq := hl i σ H pp
  rcases Nat.lt_or_ge i xs.length with c | c
  · right
    refine ⟨⟨xs, xs[i], hq, List.getElem?_eq_getElem c⟩, Pv (i + 1), fun σ' H' p' => ⟨xs.length - (i + 1), by omega, rfl, c, p'⟩, ?_⟩
    rintro v H' ⟨T, v1, ev, hT, eH, hv⟩
    subst ev eH
    exact hs i v1 T σ H (hv xs hq) pp hT
  · left
    have e : i = xs.length := by omega
    subst e
    exact ⟨⟨xs, hq, rfl⟩, hd σ H pp⟩
end W83

namespace W83
open PySem PySem.Spec PyProof.Rows L2
/-! ### dict(zip(s, t)), s and t tuples: the pairs stay out while the dict takes them -/
section
variable {prog : Program} {w : World} {A : Around} {E : Value → Shared → Prop} {s : Shared} {z TI TO T i1 i2 : Addr} {fp1 fp2 : List Addr} {n1 n2 i : Nat} {P1 P2 : Nat → Value → Prop} {St1 St2 : Nat → Heap → Prop} {fl : Bool} {oT : Obj}
theorem zipOut_item {Q : Value → Shared → Prop} (S : ZipSep2 z TI TO i1 i2 fp1 fp2) (D1 : Draws prog w A i1 fp1 n1 P1 St1) (D2 : Draws prog w A i2 fp2 n2 P2 St2)
    (hz : IsZipHeld s.heap z TI TO T fl) (hT : s.heap.get? T = some oT) (hTI : IsTupOf2 s.heap TI (.ref i1) (.ref i2)) (st1 : St1 i s.heap) (st2 : St2 i s.heap) (c1 : i < n1) (c2 : i < n2)
    (hQ : ∀ u v h' tk, P1 i u → P2 i v → IsZipHeld h' z TI TO T true → St1 (i + 1) h' → St2 (i + 1) h' → IsTupOf2 h' s.heap.objs.size u v →
      (∀ c ob, c ≠ z → c ≠ i1 → c ≠ i2 → s.heap.get? c = some ob → h'.get? c = some ob) → Q (.ref s.heap.objs.size) { s with heap := h', toks := tk }) :
    wpAny (model prog w) A (Builtin.«zip.__next__» ⟨[.ref z], []⟩) (fun fin s' => ∃ v, fin = .done (.ret v) ∧ Q v s') E s := by
  have zi1 := S.zi1
  have zi2 := S.zi2
  have i12 : i1 ≠ i2 := fun e => S.sep1_2 (by rw [e]; exact S.mem2)
  show wpAny _ _ (field (.ref z) 2 >>= _) _ _ _
  apply wpAny_bind
  apply wpAny_field hz rfl (x := .bool false) rfl
  show wpAny _ _ (field (.ref z) 3 >>= _) _ _ _
  apply wpAny_bind
  apply wpAny_field hz rfl (x := .ref TI) rfl
  apply wpAny_bind
  apply wpAny_seqItems hTI rfl
  show wpAny _ _ (Builtin.SmallTypes.ownedTupleIsFree (.ref z) >>= _) _ _ _
  apply wpAny_bind
  apply wpAny_tupleHeld_zip hz hT
  intro g1 hz1 sb1
  have k1 : ∀ c ob, c ≠ z → s.heap.get? c = some ob → g1.get? c = some ob := fun c ob hc e => sb1.extBut c ob hc e
  simp only [Bool.false_eq_true, if_false]
  apply wpAny_bind
  rw [← Array.forIn_toList]
  simp only [List.forIn_cons, List.forIn_nil]
  apply wpAny_bind
  apply wpAny_bind
  apply wpAny_holding
  show wpAny _ _ (Builtin.SmallTypes.nextOf (.ref i1) >>= _) _ _ _
  apply wpAny_bind
  apply D1.item i _ _ _ c1 (D1.frame _ _ _ st1 fun b hb ob e => k1 b ob (fun q => S.zf1 (q ▸ hb)) e)
  intro u g2 tk2 hu st1' sb2
  apply wpAny_pure
  apply wpAny_pure
  have k2 : ∀ c ob, c ≠ z → c ≠ i1 → s.heap.get? c = some ob → g2.get? c = some ob := fun c ob hc hc1 e => sb2.extBut c ob hc1 (k1 c ob hc e)
  apply wpAny_bind
  apply wpAny_bind
  apply wpAny_holding
  show wpAny _ _ (Builtin.SmallTypes.nextOf (.ref i2) >>= _) _ _ _
  apply wpAny_bind
  apply D2.item i _ _ _ c2 (D2.frame _ _ _ st2 fun b hb ob e => k2 b ob (fun q => S.zf2 (q ▸ hb)) (fun q => S.sep1_2 (q ▸ hb)) e)
  intro v g3 tk3 hv st2' sb3
  apply wpAny_pure
  apply wpAny_pure
  apply wpAny_pure
  show wpAny _ _ (newTuple [u, v] >>= _) _ _ _
  apply wpAny_bind
  refine wpAny_newTuple ?_
  have hsz : g3.objs.size = s.heap.objs.size := by rw [sb3.1, sb2.1, sb1.1]
  have k3 : ∀ c ob, c ≠ z → c ≠ i1 → c ≠ i2 → s.heap.get? c = some ob → g3.get? c = some ob := fun c ob hc hc1 hc2 e => sb3.extBut c ob hc2 (k2 c ob hc hc1 e)
  have hz3 : IsZipHeld g3 z TI TO T true := sb3.extBut _ _ zi2 (sb2.extBut _ _ zi1 hz1)
  have st1'' : St1 (i + 1) g3 := D1.frame _ _ _ st1' fun b hb ob e => sb3.extBut b ob (fun q => S.sep2_1 (q ▸ hb)) e
  apply wpAny_pure
  refine ⟨_, rfl, ?_⟩
  have new : IsTupOf2 (g3.push { cls := .type "tuple", data := .seq #[u, v] }) g3.objs.size u v := Heap.get?_push_size _ rfl
  show Q (.ref g3.objs.size) _
  rw [hsz] at new ⊢
  exact hQ u v _ tk3 hu hv (Heap.get?_push_of_some _ hz3) (D1.frame _ _ _ st1'' fun b hb ob e => Heap.get?_push_of_some _ e) (D2.frame _ _ _ st2' fun b hb ob e => Heap.get?_push_of_some _ e) new
    fun c ob hc hc1 hc2 e => Heap.get?_push_of_some _ (k3 c ob hc hc1 hc2 e)
theorem zipOut_end {Q : Fin → Shared → Prop} (S : ZipSep2 z TI TO i1 i2 fp1 fp2) (D1 : Draws prog w A i1 fp1 n1 P1 St1) (D2 : Draws prog w A i2 fp2 n2 P2 St2)
    (hz : IsZipHeld s.heap z TI TO T fl) (hT : s.heap.get? T = some oT) (hTI : IsTupOf2 s.heap TI (.ref i1) (.ref i2)) (st1 : St1 i s.heap) (st2 : St2 i s.heap) (b1 : i ≤ n1) (b2 : i ≤ n2) (he : i = n1 ∨ i = n2)
    (hE : ∀ h' tk e, (∀ c ob, c ≠ z → c ≠ i1 → c ≠ i2 → s.heap.get? c = some ob → h'.get? c = some ob) → (∃ ob, h'.get? e = some ob ∧ ob.cls = .type "StopIteration") → E (.ref e) { s with heap := h', toks := tk }) :
    wpAny (model prog w) A (Builtin.«zip.__next__» ⟨[.ref z], []⟩) Q E s := by
  show wpAny _ _ (field (.ref z) 2 >>= _) _ _ _
  apply wpAny_bind
  apply wpAny_field hz rfl (x := .bool false) rfl
  show wpAny _ _ (field (.ref z) 3 >>= _) _ _ _
  apply wpAny_bind
  apply wpAny_field hz rfl (x := .ref TI) rfl
  apply wpAny_bind
  apply wpAny_seqItems hTI rfl
  show wpAny _ _ (Builtin.SmallTypes.ownedTupleIsFree (.ref z) >>= _) _ _ _
  apply wpAny_bind
  apply wpAny_tupleHeld_zip hz hT
  intro g1 hz1 sb1
  have k1 : ∀ c ob, c ≠ z → s.heap.get? c = some ob → g1.get? c = some ob := fun c ob hc e => sb1.extBut c ob hc e
  simp only [Bool.false_eq_true, if_false]
  apply wpAny_bind
  rw [← Array.forIn_toList]
  simp only [List.forIn_cons, List.forIn_nil]
  apply wpAny_bind
  apply wpAny_bind
  apply wpAny_holding
  show wpAny _ _ (Builtin.SmallTypes.nextOf (.ref i1) >>= _) _ _ _
  apply wpAny_bind
  have st1g : St1 i g1 := D1.frame _ _ _ st1 fun b hb ob e => k1 b ob (fun q => S.zf1 (q ▸ hb)) e
  rcases Nat.lt_or_ge i n1 with c1 | c1
  · have e2 : i = n2 := by omega
    subst e2
    apply D1.item i _ _ _ c1 st1g
    intro u g2 tk2 hu st1' sb2
    apply wpAny_pure
    apply wpAny_pure
    have k2 : ∀ c ob, c ≠ z → c ≠ i1 → s.heap.get? c = some ob → g2.get? c = some ob := fun c ob hc hc1 e => sb2.extBut c ob hc1 (k1 c ob hc e)
    apply wpAny_bind
    apply wpAny_bind
    apply wpAny_holding
    show wpAny _ _ (Builtin.SmallTypes.nextOf (.ref i2) >>= _) _ _ _
    apply wpAny_bind
    apply D2.done _ _ _ (D2.frame _ _ _ st2 fun b hb ob e => k2 b ob (fun q => S.zf2 (q ▸ hb)) (fun q => S.sep1_2 (q ▸ hb)) e)
    intro g3 e sb3 hs
    exact hE g3 _ e (fun c ob hc hc1 hc2 q => sb3 c ob hc2 (k2 c ob hc hc1 q)) hs
  · have e1 : i = n1 := by omega
    subst e1
    apply D1.done _ _ _ st1g
    intro g2 e sb2 hs
    exact hE g2 _ e (fun c ob hc hc1 hc2 q => sb2 c ob hc1 (k1 c ob hc q)) hs
theorem pyNext_zipOut_item {Q : Option Value → Shared → Prop} (S : ZipSep2 z TI TO i1 i2 fp1 fp2) (D1 : Draws prog w A.in1 i1 fp1 n1 P1 St1) (D2 : Draws prog w A.in1 i2 fp2 n2 P2 St2)
    (hz : IsZipHeld s.heap z TI TO T fl) (hT : s.heap.get? T = some oT) (hTI : IsTupOf2 s.heap TI (.ref i1) (.ref i2)) (st1 : St1 i s.heap) (st2 : St2 i s.heap) (c1 : i < n1) (c2 : i < n2)
    (hQ : ∀ u v h' tk, P1 i u → P2 i v → IsZipHeld h' z TI TO T true → St1 (i + 1) h' → St2 (i + 1) h' → IsTupOf2 h' s.heap.objs.size u v →
      (∀ c ob, c ≠ z → c ≠ i1 → c ≠ i2 → s.heap.get? c = some ob → h'.get? c = some ob) → Q (some (.ref s.heap.objs.size)) { s with heap := h', toks := tk }) :
    wpAny (model prog w) A (pyNext (.ref z)) Q E s := by
  have ty : s.TypeIs (.ref z) "zip" := ⟨_, hz, rfl⟩
  unfold pyNext
  apply wpAny_bind
  apply wpAny_attempt
  apply wpAny_callSpecial?_slot (name := Str.ofString "__next__") ty PySem.F.slot_zip_next
  refine wpAny_call_entry PySem.F.slot_zip_next ty PySem.F.entry_zip_next ?_ (PySem.F.args_zip_next_1 _)
  exact zipOut_item S D1 D2 hz hT hTI st1 st2 c1 c2 fun u v h' tk a b c d e g k => wpAny_pure (hQ u v h' tk a b c d e g k)
theorem pyNext_zipOut_end {Q : Option Value → Shared → Prop} (S : ZipSep2 z TI TO i1 i2 fp1 fp2) (D1 : Draws prog w A.in1 i1 fp1 n1 P1 St1) (D2 : Draws prog w A.in1 i2 fp2 n2 P2 St2)
    (hz : IsZipHeld s.heap z TI TO T fl) (hT : s.heap.get? T = some oT) (hTI : IsTupOf2 s.heap TI (.ref i1) (.ref i2)) (st1 : St1 i s.heap) (st2 : St2 i s.heap) (b1 : i ≤ n1) (b2 : i ≤ n2) (he : i = n1 ∨ i = n2)
    (hQ : ∀ h' tk, (∀ c ob, c ≠ z → c ≠ i1 → c ≠ i2 → s.heap.get? c = some ob → h'.get? c = some ob) → Q none { s with heap := h', toks := tk }) :
    wpAny (model prog w) A (pyNext (.ref z)) Q E s := by
  have ty : s.TypeIs (.ref z) "zip" := ⟨_, hz, rfl⟩
  unfold pyNext
  apply wpAny_bind
  apply wpAny_attempt
  apply wpAny_callSpecial?_slot (name := Str.ofString "__next__") ty PySem.F.slot_zip_next
  refine wpAny_call_entry PySem.F.slot_zip_next ty PySem.F.entry_zip_next ?_ (PySem.F.args_zip_next_1 _)
  refine zipOut_end S D1 D2 hz hT hTI st1 st2 b1 b2 he fun h' tk e hk hs => ?_
  obtain ⟨ob, h1, h2⟩ := hs
  exact wpAny_bind (wpAny_isInstance (T := "StopIteration") (b := true) ⟨ob, h1, h2⟩ isSubtype_stop (wpAny_pure (hQ _ _ hk)))
end
section
variable {prog : Program} {w : World} {z TI TO i1 i2 l1 l2 : Addr}
/-- a zip of two tuples as what dict() takes -/
theorem pairArg_tups (S : ZipSep2 z TI TO i1 i2 [i1, l1] [i2, l2]) (T1 : TI ≠ l1) (T2 : TI ≠ l2) (hl1 : l1 ≠ i1) (hl2 : l2 ≠ i2) (us vs : Array Value) :
    PairArg prog w "zip" z [z, TI, TO, i1, i2, l1, l2] [z, TO, i1, i2] (min us.size vs.size) (fun i a b => us[i]? = some a ∧ vs[i]? = some b)
      (fun h => IsZip h z TI TO .none ∧ IsTupOf2 h TI (.ref i1) (.ref i2) ∧ (∃ a b, IsTupOf2 h TO a b) ∧ (h.IsTupleIter i1 l1 0 ∧ h.IsTuple l1 us) ∧ h.IsTupleIter i2 l2 0 ∧ h.IsTuple l2 vs) where
  type := fun s ok => ⟨_, ok.1, rfl⟩
  notDict := by decide
  keep := fun h h' ok hk => by
    obtain ⟨a1, a2, ⟨a, b, a3⟩, ⟨a4, a5⟩, a6, a7⟩ := ok
    exact ⟨hk _ _ a1, hk _ _ a2, ⟨a, b, hk _ _ a3⟩, ⟨a4.at fun ob e => hk _ ob e, a5.at fun ob e => hk _ ob e⟩, a6.at fun ob e => hk _ ob e, a7.at fun ob e => hk _ ob e⟩
  there := fun h ok b hb => by
    obtain ⟨a1, a2, ⟨a, c, a3⟩, ⟨⟨o4, a4, _⟩, ⟨o5, a5, _⟩⟩, ⟨o6, a6, _⟩, ⟨o7, a7, _⟩⟩ := ok
    simp only [List.mem_cons, List.not_mem_nil, or_false] at hb
    rcases hb with e | e | e | e | e | e | e <;> subst e
    · exact ⟨_, a1⟩
    · exact ⟨_, a2⟩
    · exact ⟨_, a3⟩
    · exact ⟨_, a4⟩
    · exact ⟨_, a6⟩
    · exact ⟨_, a5⟩
    · exact ⟨_, a7⟩
  sub := fun b hb => by
    simp only [List.mem_cons, List.not_mem_nil, or_false] at hb ⊢
    rcases hb with e | e | e | e <;> simp [e]
  noKeys := fun A s Q E hA ok hh => getAttrOr_miss_zip ok.1 rfl rfl rfl zip_no_keys (by decide +kernel) hA hh
  iter := fun A s d Q E hA ok hd hdf hh => by
    obtain ⟨a1, a2, ⟨a, b, a3⟩, a4, a5⟩ := ok
    have D1 := Draws.tuple (prog := prog) (w := w) (A := A.in1) hA i1 l1 hl1 us
    have D2 := Draws.tuple (prog := prog) (w := w) (A := A.in1) hA i2 l2 hl2 vs
    simp only [List.mem_cons, List.not_mem_nil, or_false, not_or] at hdf
    obtain ⟨dz, dTI, dTO, di1, di2, dl1, dl2⟩ := hdf
    apply wpAny_pyIter_zip a1
    refine hh z [z, TO, i1, i2] (fun i h => IsTupOf2 h TI (.ref i1) (.ref i2) ∧ (h.IsTupleIter i1 l1 i ∧ h.IsTuple l1 us) ∧ (h.IsTupleIter i2 l2 i ∧ h.IsTuple l2 vs) ∧
      ((IsZip h z TI TO .none ∧ ∃ a b, IsTupOf2 h TO a b) ∨ ∃ T fl oT, IsZipHeld h z TI TO T fl ∧ h.get? T = some oT ∧ T ≠ z ∧ T ≠ i1 ∧ T ≠ i2 ∧ T ≠ d)) s.heap s.toks ?_ ⟨a2, a4, a5, .inl ⟨a1, a, b, a3⟩⟩ (fun _ _ e => e) (fun c hc => .inl hc)
    refine { off := ?_, frame := ?_, item := ?_, done := ?_ }
    · intro hm
      simp only [List.mem_cons, List.not_mem_nil, or_false] at hm
      rcases hm with e | e | e | e
      · exact dz e
      · exact dTO e
      · exact di1 e
      · exact di2 e
    · intro i h h' st hk
      obtain ⟨b1, ⟨b2, b3⟩, ⟨b4, b5⟩, b6⟩ := st
      refine ⟨hk _ _ (Ne.symm dTI) b1, ⟨b2.at fun ob e => hk _ ob (Ne.symm di1) e, b3.at fun ob e => hk _ ob (Ne.symm dl1) e⟩, ⟨b4.at fun ob e => hk _ ob (Ne.symm di2) e, b5.at fun ob e => hk _ ob (Ne.symm dl2) e⟩, ?_⟩
      rcases b6 with ⟨c1, x, y, c2⟩ | ⟨T, fl, oT, c1, c2, c3, c4, c5, c6⟩
      · exact .inl ⟨hk _ _ (Ne.symm dz) c1, x, y, hk _ _ (Ne.symm dTO) c2⟩
      · exact .inr ⟨T, fl, oT, hk _ _ (Ne.symm dz) c1, hk _ _ c6 c2, c3, c4, c5, c6⟩
    · intro i s1 Q1 E1 hi st hds hQ
      obtain ⟨b1, b2, b4, b6⟩ := st
      have hi1 : i < us.size := Nat.lt_of_lt_of_le hi (Nat.min_le_left ..)
      have hi2 : i < vs.size := Nat.lt_of_lt_of_le hi (Nat.min_le_right ..)
      have far : ∀ {c : Addr} {ob : Obj}, s1.heap.get? c = some ob → s1.heap.objs.size ≠ c := fun e => Nat.ne_of_gt (Heap.lt_size e)
      have f1 : s1.heap.objs.size ≠ i1 := by obtain ⟨⟨ob, e, _⟩, _⟩ := b2; exact far e
      have f2 : s1.heap.objs.size ≠ i2 := by obtain ⟨⟨ob, e, _⟩, _⟩ := b4; exact far e
      rcases b6 with ⟨c1, x, y, c2⟩ | ⟨T, fl, oT, c1, c2, c3, c4, c5, c6⟩
      · refine wpAny_pyNext_zipD2_item S D1 D2 c1 b1 c2 b2 b4 hi1 hi2 ?_
        intro u v h' tk hu hv g1 g2 g3 g4 g5 g6 hk
        exact hQ s1.heap.objs.size u v h' tk ⟨hu, hv⟩ (.inl ⟨_, g5, rfl, _, rfl⟩) ⟨hk _ _ S.TIz S.TITO S.TIi1 S.TIi2 b1, g3, g4, .inr ⟨s1.heap.objs.size, false, _, g1, g5, far c1, f1, f2, Nat.ne_of_gt hds⟩⟩
          fun c ob hc e => hk c ob (fun q => hc (by simp [q])) (fun q => hc (by simp [q])) (fun q => hc (by simp [q])) (fun q => hc (by simp [q])) e
      · refine pyNext_zipOut_item S D1 D2 c1 c2 b1 b2 b4 hi1 hi2 ?_
        intro u v h' tk hu hv g1 g3 g4 g5 hk
        exact hQ s1.heap.objs.size u v h' tk ⟨hu, hv⟩ (.inl ⟨_, g5, rfl, _, rfl⟩) ⟨hk _ _ S.TIz S.TIi1 S.TIi2 b1, g3, g4, .inr ⟨T, true, oT, g1, hk _ _ c3 c4 c5 c2, c3, c4, c5, c6⟩⟩
          fun c ob hc e => hk c ob (fun q => hc (by simp [q])) (fun q => hc (by simp [q])) (fun q => hc (by simp [q])) e
    · intro s1 Q1 E1 st hQ
      obtain ⟨b1, b2, b4, b6⟩ := st
      have he : min us.size vs.size = us.size ∨ min us.size vs.size = vs.size := by omega
      rcases b6 with ⟨c1, x, y, c2⟩ | ⟨T, fl, oT, c1, c2, c3, c4, c5, c6⟩
      · exact wpAny_pyNext_zipD2_end S D1 D2 c1 b1 c2 b2 b4 (Nat.min_le_left ..) (Nat.min_le_right ..) he fun h' tk hk =>
          hQ h' tk fun c ob hc e => hk c ob (fun q => hc (by simp [q])) (fun q => hc (by simp [q])) (fun q => hc (by simp [q])) (fun q => hc (by simp [q])) e
      · exact pyNext_zipOut_end S D1 D2 c1 c2 b1 b2 b4 (Nat.min_le_left ..) (Nat.min_le_right ..) he fun h' tk hk =>
          hQ h' tk fun c ob hc e => hk c ob (fun q => hc (by simp [q])) (fun q => hc (by simp [q])) (fun q => hc (by simp [q])) e
end
/-- the keys of a tuple of texts with the values of another -/
def zipK : List Str → List V → List (Key × V)
  | x :: xs, v :: vs => (Sum.inr x, v) :: zipK xs vs
  | _, _ => []
theorem zipK_len : ∀ (xs : List Str) (vs : List V), (zipK xs vs).length = min xs.length vs.length
  | [], vs => by simp [zipK]
  | _ :: _, [] => by simp [zipK]
  | x :: xs, v :: vs => by simp [zipK, zipK_len xs vs]
def zipV : List Str → List Value → List (Key × Value)
  | x :: xs, v :: vs => (Sum.inr x, v) :: zipV xs vs
  | _, _ => []
theorem zipV_len : ∀ (xs : List Str) (vs : List Value), (zipV xs vs).length = min xs.length vs.length
  | [], vs => by simp [zipV]
  | _ :: _, [] => by simp [zipV]
  | x :: xs, v :: vs => by simp [zipV, zipV_len xs vs]
theorem zip_rel : ∀ {xs : List Str} {vs : List V} {us : List Value}, Vals vs us → KV (zipK xs vs) (zipV xs us)
  | [], _, _, _ => .nil
  | _ :: _, _, _, .nil => .nil
  | _ :: _, _, _, .cons r t => .cons ⟨rfl, r⟩ (zip_rel t)
theorem zipV_at : ∀ {xs : List Str} {vs : List Value} {i : Nat} {x : Str} {v : Value}, xs[i]? = some x → vs[i]? = some v → (zipV xs vs)[i]? = some (Sum.inr x, v)
  | [], _, _, _, _, h, _ => by simp at h
  | _ :: _, [], _, _, _, _, h => by simp at h
  | x :: xs, v :: vs, 0, _, _, h, h' => by simp at h h'; subst h h'; rfl
  | x :: xs, v :: vs, i + 1, _, _, h, h' => by
    show (zipV xs vs)[i]? = _
    exact zipV_at (by simpa using h) (by simpa using h')
section
variable {X : Cx} {a b : Expr} {ta tb : TE} {p p2 pos pos2 : Pos}
def tDictZip (K : PySem.W.Frag) (ta : TA) : TE := fun σ H Q => ta σ H fun vs G => ∃ (a b : Addr) (xs : List Str) (ys : List V), vs = [.ref a, .ref b] ∧ SqT K G a (xs.map V.str) ∧ SqT K G b ys ∧
  ∀ d, G d = none → Q (.ref d) (upd G d (.dK (mergeK [] (zipK xs ys))))
theorem pe_dictZip {t : TA} (hc : X.calm = true) (hg : Gl X "dict") (hm : X.mg "dict" = none) (hg2 : Gl X "zip") (hm2 : X.mg "zip" = none) (ha : PA X [a, b] t)
    (hs : starEach [a, b] X.env = [(false, eval a X.env), (false, eval b X.env)] := by rfl) (hs2 : starEach [b] X.env = [(false, eval b X.env)] := by rfl)
    (hs3 : starEach [.Call (.Name "zip" p2) [a, b] [] pos2] X.env = (false, eval (.Call (.Name "zip" p2) [a, b] [] pos2) X.env) :: starEach [] X.env := by rfl) :
    PE X (.Call (.Name "dict" p) [.Call (.Name "zip" p2) [a, b] [] pos2] [] pos) (tDictZip X.K t) := by
  constructor
  intro pins s σ H Q I hh
  refine Call_ (ld_blt I hg hm boot_dict (PyProof.Rows.callWith_type1 (args_cons (Call_ (ld_blt I hg2 hm2 boot_zip (PyProof.Rows.callWith_type1 (thn (ha.run pos2 pins s σ H _ I hh) ?_) (by rw [hs, hs2]) (by rw [hs2]; rfl)))) hs3) hs3 rfl))
  rintro us s1 ⟨vs, G, J, rus, a1, b1, xs, ys, ev, hq1, hq2, hq⟩
  subst ev
  obtain ⟨u, v, eu, ru, rv⟩ := vals2 rus
  subst eu
  have eu : u = Value.ref a1 := ru
  have ew : v = Value.ref b1 := rv
  subst eu ew
  obtain ⟨is1, r1, pt1, z1⟩ := J.tuple hq1
  obtain ⟨is2, r2, pt2, z2⟩ := J.tuple hq2
  have pt1' : s1.heap.IsTuple a1 is1.toArray := pt1
  have pt2' : s1.heap.IsTuple b1 is2.toArray := pt2
  have la : a1 < s1.heap.objs.size := by obtain ⟨ob, e, _⟩ := pt1'; exact Heap.lt_size e
  have lb : b1 < s1.heap.objs.size := by obtain ⟨ob, e, _⟩ := pt2'; exact Heap.lt_size e
  refine zip_begins2 (begins_tuple a1 is1.toArray) (begins_tuple b1 is2.toArray) pt1' pt2' ?_
  intro h' g1 g2 g3 g4 g5 g6 hk
  apply args_nil
  have S := zip_sep2 (N := s1.heap.objs.size) (fp1 := [a1]) (fp2 := [b1]) (fun c hc => by rw [List.mem_singleton.mp hc]; exact la) (fun c hc => by rw [List.mem_singleton.mp hc]; exact lb)
  have i1 : h'.IsTupleIter s1.heap.objs.size a1 0 := ⟨_, g4, rfl, rfl⟩
  have i2 : h'.IsTupleIter (s1.heap.objs.size + 1) b1 0 := ⟨_, g5, rfl, rfl⟩
  have P := pairArg_tups (prog := X.prog) (w := X.w) S (Nat.ne_of_gt (Nat.lt_trans la (by exact Nat.lt_add_of_pos_right (by decide : 0 < 2)))) (Nat.ne_of_gt (Nat.lt_trans lb (by exact Nat.lt_add_of_pos_right (by decide : 0 < 2)))) (Nat.ne_of_lt la) (Nat.ne_of_lt (Nat.lt_succ_of_lt lb)) is1.toArray is2.toArray
  have J2 : Inv X pins σ G { s1 with heap := h' } := J.kept (t' := s1.toks) hk
  have len1 : xs.length = is1.length := by have q1 := r1.length; rwa [List.length_map] at q1
  have keysAt : ∀ (i : Nat) (key : Value), is1.toArray[i]? = some key → ∃ x : Str, xs[i]? = some x ∧ keyIs (.inr x) key = true := by
    intro i key hi
    have hi' : is1[i]? = some key := by simpa using hi
    have hlt := (List.getElem?_eq_some_iff.mp hi').1
    have hx : xs[i]? = some (xs[i]'(by omega)) := List.getElem?_eq_getElem (by omega)
    obtain ⟨key', e1, e2⟩ := r1.get (i := i) (x := .str (xs[i]'(by omega))) (by rw [List.getElem?_map, hx]; rfl)
    rw [hi'] at e1
    cases e1
    obtain ⟨tk, e3⟩ := e2
    exact ⟨_, hx, by rw [e3]; exact keyIs_str _ _⟩
  refine call_dict_pairs (knd := mixKind X.prog X.w) (kvs := zipV xs is2) P (J.ok.hd hc) ⟨g1, g2, ⟨_, _, g3⟩, ⟨i1, pt1'.at fun ob e => hk _ ob e⟩, i2, pt2'.at fun ob e => hk _ ob e⟩ ⟨?_, ?_⟩ ?_ ?_
  · rw [zipV_len, len1, List.size_toArray, List.size_toArray]
  · intro i key v hr
    obtain ⟨x, h1, h2⟩ := keysAt i key hr.1
    exact ⟨.inr x, zipV_at h1 (by simpa using hr.2), h2⟩
  · rw [List.size_toArray, List.size_toArray, ← r2.length]
    exact Nat.le_trans (Nat.min_le_right ..) z2
  · intro h2 tk hd hk2
    have hm0 : (h'.objs.size == sysModules) = false := beq_eq_false_iff_ne.mpr (Nat.ne_of_gt J2.big)
    have hl : (mergeK [] (zipK xs ys)).length ≤ sizeLine := by
      refine Nat.le_trans (length_mergeK _ _) ?_
      rw [List.length_nil, Nat.zero_add, zipK_len]
      exact Nat.le_trans (Nat.min_le_right ..) z2
    have far : ∀ c ∈ [s1.heap.objs.size + 4, s1.heap.objs.size + 3, s1.heap.objs.size, s1.heap.objs.size + 1], FpOk X pins G c := by
      intro c hc'
      have hle : s1.heap.objs.size ≤ c := by
        simp only [List.mem_cons, List.not_mem_nil, or_false] at hc'
        rcases hc' with e | e | e | e <;> rw [e]
        · exact Nat.le_add_right _ _
        · exact Nat.le_add_right _ _
        · exact Nat.le_refl _
        · exact Nat.le_add_right _ _
      exact J.fpOk hle (J.hok.fresh hle)
    have new : ObjOk X.prog X.w (upd G h'.objs.size (.dK (mergeK [] (zipK xs ys)))) h2 h'.objs.size (.dK (mergeK [] (zipK xs ys))) := ⟨hl, hm0, merged [] (zipV xs is2), KV.merge (zip_rel r2) .nil, hd⟩
    exact ⟨.ref h'.objs.size, _, J2.turnedNew (t' := tk) hk2 far (Nat.le_refl _) new, rfl, hq _ (J2.hok.fresh (Nat.le_refl _))⟩
end
end W83

namespace W83
open PySem PySem.Spec PyProof.Rows L2
/-! ### try: body, except x as n: suite (it returns), else: rest; the body's exceptions are all of the clause's kind -/
section
variable {X : Cx} {x n : Str} {c : Value} {i : Nat} {body suite orelse : List Stmt} {b₀ : Stmt} {np pos pos' : Pos} {tb : WX → TS} {ts : Addr → Value → Option Addr → TS} {u : TS}
/-- what the clause wishes of an exception of the body -/
def wGet (K : PySem.W.Frag) (c : Value) (i : Nat) (ts : Addr → Value → Option Addr → TS) (rt : VK) : WX := fun cls d σ H =>
  PySem.W.exmOne K cls c = some true ∧ ∀ a, H a = none → ts a cls d { nx := fun _ _ => False, rt := rt } (σ.set i (some (.ref a))) H
theorem ps_tryE (hs : X.stack = X.env :: X.outer) (hf : X.env.frame = some X.env.locals) (hN : X.N.Nodup) (hi : X.N[i]? = some n) (hln : X.env.kindOf n = some .local) (hc : Names X x c)
    (hb : ∀ (V : WX) (pn : List (Addr × Obj)) (xe : Value → Shared → Prop), L2N.Takes (X.tr pn xe) V → PassesOwn (model X.prog X.w) X.A X.env xe → PSs (X.tr pn xe) body (tb V))
    (hsu : ∀ (a : Addr) (oe : Obj) (cls : Value) (d : Option Addr) (pn : List (Addr × Obj)), L2N.Zn cls d oe → (∃ vs, oe.data = .fields vs) → PSs (X.suite a ((a, oe) :: pn)) (b₀ :: suite) (ts a cls d))
    (ho : PSs X orelse u) :
    PS X (.Try body [.ExceptHandler (some (.Name x np)) (some n) (b₀ :: suite) pos'] orelse [] pos) (fun D σ H => tb (wGet X.K c i ts D.rt) { nx := u D, rt := D.rt } σ H) := by
  constructor
  intro pins s σ H D I hh
  have ok := I.ok
  have frm : X.A.frames = some (X.env :: X.outer) := by rw [ok.frames, hs]
  apply wpAny_Try_except
  have body_ := hb (wGet X.K c i ts D.rt) (X.pn ++ pins) (fun e s1 => wpAny (model X.prog X.w) X.A (noteFrame e X.env)
      (fun _ s2 => wpAny (model X.prog X.w) X.A (setFlight e none) (fun _ s3 => wpAny (model X.prog X.w) X.A (handleBy e X.env [.ExceptHandler (some (.Name x np)) (some n) (b₀ :: suite) pos']) (SP X pins D) X.xe s3) X.xe s2) X.xe s1)
  have taken : L2N.Takes (X.tr (X.pn ++ pins) (fun e s1 => wpAny (model X.prog X.w) X.A (noteFrame e X.env)
      (fun _ s2 => wpAny (model X.prog X.w) X.A (setFlight e none) (fun _ s3 => wpAny (model X.prog X.w) X.A (handleBy e X.env [.ExceptHandler (some (.Name x np)) (some n) (b₀ :: suite) pos']) (SP X pins D) X.xe s3) X.xe s2) X.xe s1))
      (wGet X.K c i ts D.rt) := by
    rintro e s' ⟨a, B, sI, pins', σ1, H1, cls, d, ee, J0, stB, upto, sky, na, os, ag, isC, go⟩
    subst ee
    have J : Inv X pins σ1 H1 sI := J0.ofTry ok
    have sky1 : Sky B (X.env :: X.outer) a (L2N.Zn cls d) X.env.locals s'.heap := by rw [← hs]; exact sky
    apply L2N.Sky.land L2N.Zn.steady frm hf sky1
    intro g1 fl1 up1
    obtain ⟨oe1, vs1, a1, z1, d1⟩ := fl1.there
    have J1 : Inv X pins σ1 H1 { s' with heap := g1 } := J.landed stB fl1.1 (upto.trans up1) os ag
    have apart : a ∉ frs (X.env :: X.outer) := by
      intro hm
      obtain ⟨_, o', e1, hnf⟩ := fl1.2.2.1.mem hm
      rw [a1] at e1
      cases e1
      exact hnf _ d1
    have nl : a ≠ X.env.locals := by
      intro z
      apply apart
      exact List.mem_filterMap.mpr ⟨X.env, List.mem_cons_self, by rw [hf, z]⟩
    have nf : a ∉ X.fs := by
      intro hm
      obtain ⟨en, h1, h2⟩ := List.mem_filterMap.mp hm
      exact apart (List.mem_filterMap.mpr ⟨en, List.mem_cons_of_mem _ h1, h2⟩)
    have S1 := J1.suite a1 d1 na nl nf
    refine wpAny_handleBy_cons (codeAny_handlers_test ?_) (by intro q; cases q)
    have ty : PySem.W.Looks (model X.prog X.w) g1 (typeOf (.ref a)) cls := fun A Q E s k q => wpAny_typeOf_ref (k _ _ a1) (by rw [z1.1]; exact q)
    have look := PySem.W.exm_one (M := model X.prog X.w) (J1.kIn) ty isC
    have test : ∀ {Q : Value → Shared → Prop} {E : Value → Shared → Prop}, Q c { s' with heap := g1 } → wpAny (model X.prog X.w) (X.A.mark (some (.ref a))) (eval (.Name x np) X.env) Q E { s' with heap := g1 } := by
      intro Q E q
      rcases hc with ⟨hg, hdbg, hm | ⟨hm, hv, hnn⟩⟩
      · exact ld_glob (X := X.suite a ((a, oe1) :: (X.pn ++ pins))) S1 hg hm q hdbg
      · exact ld_blt (X := X.suite a ((a, oe1) :: (X.pn ++ pins))) S1 hg hm hv q hnn hdbg
    apply test
    apply look.here
    apply codeAny_handlers_suite_as
    apply HandSPX.lands_againZ fl1
    intro g2 fl2 up2
    obtain ⟨oe2, vs2, a2, z2, d2⟩ := fl2.there
    have J2 : Inv X pins σ1 H1 { s' with heap := g2 } := J.landed stB fl2.1 ((upto.trans up1).trans up2) os ag
    have S2 := J2.suite a2 d2 na nl nf
    refine store_ok (X := X.suite a ((a, oe2) :: (X.pn ++ pins))) (v := .ref a) S2 hN hi (.inl hln) rfl ?_ (.inr hln)
    intro s5 S5
    refine wpAny_mono ((hsu a oe2 cls d (X.pn ++ pins) z2 ⟨_, d2⟩).run [] s5 _ H1 _ S5 (go a na)) ?_ (fun _ _ z => False.elim z)
    intro f s6 h6
    cases f with
    | ret r =>
      obtain ⟨v6, σ6, H6, S6, r6, q6⟩ := h6
      exact gone_ok (S6.unsuite ok) hN hi hln fun s7 J7 => ⟨_, _, _, J7, r6, q6⟩
    | next => obtain ⟨_, _, _, q⟩ := h6; exact False.elim q
    | brk => obtain ⟨_, _, _, q⟩ := h6; exact False.elim q
    | cont => obtain ⟨_, _, _, q⟩ := h6; exact False.elim q
  refine wpAny_mono ((body_ taken PassesOwn.looking).run [] s σ H { nx := u D, rt := D.rt } (I.toTry _) hh) ?_ (fun _ _ z => z)
  intro f s1 h1
  cases f with
  | next =>
    obtain ⟨σ1, H1, J1, q⟩ := h1
    exact ho.run pins s1 σ1 H1 D (J1.ofTry ok) q
  | ret r =>
    obtain ⟨v1, σ1, H1, J1, r1, q⟩ := h1
    exact ⟨v1, σ1, H1, J1.ofTry ok, r1, q⟩
  | brk => obtain ⟨_, _, _, q⟩ := h1; exact False.elim q
  | cont => obtain ⟨_, _, _, q⟩ := h1; exact False.elim q
end
end W83

namespace PySem
namespace RgX
open PySem.W PySem.Calls PyProof.Rows PySem.HandSPX
/-! ### the text of __init__ -/
def iA (p1 p2 : Pos) : Arguments := { posonlyargs := [], args := [{ arg := "self", annotation := none, pos := p1 }, { arg := "names", annotation := none, pos := p2 }], vararg := none, kwonlyargs := [], kw_defaults := [], kwarg := none, defaults := [] }
def iB (q1 q2 q3 q4 : Pos) : List Stmt := [.Assign [.Attribute (.Name "self" q1) "names" q2] (.Name "names" q3) q4]
def iS : Scope := { kind := .function, names := [(PySem.Str.ofString "self", .local), (PySem.Str.ofString "names", .local)], isGenerator := false, isCoroutine := false, more := [] }
/-- what the written part says of Low, at C, and of its __init__, at fI -/
structure RgTxt (K : Frag) (mg : Str → Option Value) (C fI : Addr) : Prop where
  gC : mg "Ring" = some (.ref C)
  cls : ∃ nm q N bs bm sn sub ab col dd k0 k1 k2 k3 k5, K.lookup C = some (excClassObj nm q C N bs bm true sn sub ab col dd k0 k1 k2 k3 k5 "ValueError.__new__") ∧ refsVE bm = true
  sa : findIn K (.ref C) "__setattr__" = some (some (.builtin "object.__setattr__"))
  ga : findIn K (.ref C) "__getattribute__" = some (some (.builtin "BaseException.__getattribute__"))
  gg : findIn K (.ref C) "__getattr__" = some none
  noN : findIn K (.ref C) "names" = some none
  iC : findIn K (.ref C) "__init__" = some (some (.ref fI))
  tC : typeIn K (.ref fI) = some (.type "function")
  kC : keepIn K (.ref C) = true
  exC : subIn K (.ref C) (.type "BaseException") = some true
  tyC : typeIn K (.ref C) = some (.type "type")
  hdC : hasDictIn K C = true
  te : exmOne K (.ref C) (.ref C) = some true
  fn : ∃ (oc : Value) (od : Option Addr) (kV doc pm : Value) (an : Option Addr) (cdv ct : Value) (osl : Array (Option Value)) (p1 p2 q1 q2 q3 q4 : Pos),
    K.lookup fI = some ⟨oc, od, .func (fnOf "__init__" "Ring.__init__" (iA p1 p2) (iB q1 q2 q3 q4) iS .none kV doc pm an cdv ct), osl⟩ ∧ codeIn K cdv "Ring.__init__" = true
theorem one_size (v : Value) : [v].length ≤ sizeLine := by
  rw [sizeLine_eq]
  exact (by decide : 1 ≤ 16777216)
theorem kept_but {K : Frag} {h h' : Heap} {x : Addr} (X : K.In h) (hx : K.lookup x = none) (k : ∀ b o, b ≠ x → h.get? b = some o → h'.get? b = some o) : K.In h' := fun a o e =>
  k a o (fun z => by rw [z, hx] at e; cases e) (X a o e)
theorem ldC {M : Model} {s : Shared} {name : Str} {scope : Scope} {L a : Addr} {cd : Value} {m : Str → Option Value} {x : Str} {pos : Pos} {v : Value} {Q : Value → Shared → Prop} {A : Around} {E : Value → Shared → Prop} (hn : s.heap.Ns L m) (hv : m x = some v) (h : Q v s)
    (hk : scope.kind = .function := by rfl) (hl : (envOfC name scope L a cd).kindOf x = some .local := by rfl) (hd : (x == ("__debug__" : Str)) = false := by decide) :
    wpAny M A (eval (.Name x pos) (envOfC name scope L a cd)) Q E s := wpAny_Name (wpAny_loadName_local hk hl hn hv h) hd
/-- what __init__ leaves of a fresh exception at x -/
structure InitEnd (h h' : Heap) (x C dx t1 : Addr) (v : Value) : Prop where
  keep : ∀ b o, b ≠ x → h.get? b = some o → h'.get? b = some o
  obj : h'.get? x = some { cls := .ref C, dict := some dx, data := .fields #[.ref t1, .none, .none, .none, .bool false, .none] }
  dbig : h.objs.size ≤ dx
  dne : dx ≠ x
  ns : h'.Ns1 dx (fun y => if y = "names" then some v else none)
/-- a made Low -/
structure OwnMade (h h' : Heap) (e C d : Addr) (v : Value) : Prop where
  keep : ∀ b o, h.get? b = some o → h'.get? b = some o
  new : h.objs.size ≤ e
  obj : ∃ oe vs, h'.get? e = some oe ∧ oe.cls = .ref C ∧ oe.dict = some d ∧ oe.data = .fields vs ∧ vs[1]? = some .none ∧ vs[2]? = some .none
  dbig : h.objs.size ≤ d
  dne : d ≠ e
  ns : h'.Ns1 d (fun y => if y = "names" then some v else none)
section
variable {prog : Program} {w : World} {A : Around} {E : Value → Shared → Prop} {R : Result → Shared → Prop} {s : Shared} {K : Frag} {mg : Str → Option Value} {C fI : Addr}
theorem rg_init (T : RgTxt K mg C fI) {x t0 : Addr} {v : Value} (X : K.In s.heap) (hlim : s.heap.NoLimit) (hx : s.heap.get? x = some (excO C t0)) (hnx : K.lookup x = none) (hroom : A.depth < recursionLimit)
    (hq : ∀ h' tk dx, InitEnd s.heap h' x C dx t0 v → R (.ok (.ret .none)) { s with heap := h', toks := tk }) :
    codeAny (model prog w) A (.call (.ref fI) ⟨[.ref x, v], []⟩) R s := by
  obtain ⟨oc, od, kV, doc, pm, an, cdv, ct, osl, p1, p2, q1, q2, q3, q4, ho, hcd⟩ := T.fn
  obtain ⟨nm, q, N, bs, bm, sn, sub, ab, col, dd, k0, k1, k2, k3, k5, hC, hbm⟩ := T.cls
  have hcl : clsIn K C = some { name := nm, bases := bs, mro := .ref C :: bm, ns := N, qualname := q, hasDict := true, slotNames := sn, subclasses := sub, abstract := ab, collection := col, hasDel := false } := by unfold clsIn; rw [hC] <;> rfl
  refine Att.call_fn (binds := [("self", .ref x), ("names", v)]) X hlim ho hcd hroom (BindsTo.of_eq (by first | rfl | with_unfolding_all rfl)) (by first | rfl | decide | with_unfolding_all rfl) (fun s₁ IC => ?_) rfl rfl rfl
  obtain ⟨h₁, tk₁, rfl⟩ := IC.toInCall.same
  have k : ∀ b o, s.heap.get? b = some o → h₁.get? b = some o := IC.toInCall.keep
  have hn := IC.toInCall.ns
  have hxL : s.heap.objs.size ≠ x := Nat.ne_of_gt (Heap.lt_size hx)
  have X₁ : K.In h₁ := X.keeps k
  have hx₁ := k _ _ hx
  -- self.by = by
  show wpAny _ _ (execs _ _) _ _ _
  refine wpAny_execs_cons (plainObj_wpAny_Assign_Attribute ?_)
  refine ldC (v := v) hn (by first | rfl | with_unfolding_all rfl | kernel_rfl) (ldC (v := .ref x) hn (by first | rfl | with_unfolding_all rfl | kernel_rfl) ?_)
  refine set_plain X₁ (ox := excO C t0) (od := none) ⟨hx₁, rfl, rfl, trivial⟩ T.sa ?_
  refine exc_osa X₁ hx₁ hcl (show refsVE (.ref C :: bm) = true from hbm) rfl T.noN (fun h₃ tk₃ dx k₃ dn dne hx₃ hn₃ => ?_)
  show wpAny _ _ (execs _ _) _ _ _
  have z : s.heap.objs.size < h₁.objs.size := hn.lt
  exact wpAny_execs_nil (hq h₃ tk₃ dx ⟨fun b o hb e => k₃ b o hb (k b o e), hx₃, Nat.le_of_lt (Nat.lt_of_lt_of_le z dn), dne, hn₃⟩)
theorem rg_made (T : RgTxt K mg C fI) {v : Value} (X : K.In s.heap) (hlim : s.heap.NoLimit) (hroom : A.depth + 1 < recursionLimit)
    (hq : ∀ h' tk e d, OwnMade s.heap h' e C d v → R (.ok (.ret (.ref e))) { s with heap := h', toks := tk }) :
    codeAny (model prog w) A (.call (.ref C) ⟨[v], []⟩) R s := by
  obtain ⟨nm, q, N, bs, bm, sn, sub, ab, col, dd, k0, k1, k2, k3, k5, hC, hbm⟩ := T.cls
  obtain ⟨hp, g, dr, tk, os⟩ := s
  have k : ∀ b o, hp.get? b = some o → ((hp.push (kdv_tup [v])).push (excO C hp.objs.size)).get? b = some o := fun b o e => Heap.get?_push_of_some _ (Heap.get?_push_of_some _ e)
  have hget : ((hp.push (kdv_tup [v])).push (excO C hp.objs.size)).get? (hp.objs.size + 1) = some (excO C hp.objs.size) := by heap_get
  have hnx : K.lookup (hp.objs.size + 1) = none := by
    cases e : K.lookup (hp.objs.size + 1) with
    | none => rfl
    | some o =>
      have z : hp.get? (hp.objs.size + 1) = some o := X _ _ e
      exact absurd (Nat.lt_of_succ_lt (Heap.lt_size z)) (Nat.lt_irrefl _)
  refine call_own F.excBase_ValueError (fun X => refsVE_contains X bm hbm) (X _ _ hC) (looks_findIn X T.iC) (fun self => bind_fn X self T.tC) (one_size v) ?_
  refine rg_init (s := ⟨(hp.push (kdv_tup [v])).push (excO C hp.objs.size), g, dr, tk, os⟩) T (X.keeps k) (hlim.keeps k) hget hnx ?_ fun h' tk' dx ⟨k', hx, dn, dne, hns⟩ => ?_
  · show A.depth + 1 < recursionLimit
    exact hroom
  · have old : ∀ b o, hp.get? b = some o → h'.get? b = some o := fun b o e => k' b o (Nat.ne_of_lt (Nat.lt_succ_of_lt (Heap.lt_size e))) (k b o e)
    have z : hp.objs.size + 1 + 1 ≤ dx := by
      first
        | (simpa only [Heap.size_push] using dn)
        | exact dn
        | (have q := dn; rw [Heap.size_push, Heap.size_push] at q; exact q)
    exact ⟨rfl, hq h' tk' (hp.objs.size + 1) dx ⟨old, Nat.le_succ _, ⟨_, _, hx, rfl, rfl, rfl, rfl, rfl⟩, Nat.le_trans (Nat.le_trans (Nat.le_succ _) (Nat.le_succ _)) z, dne, hns⟩⟩
end
end RgX
end PySem
namespace L2
open PySem PySem.Spec PyProof.Rows
theorem relO_rg {v : V} {v' : Value} (r : RelV v v') (f : Str) : RelO (List.lookup f [(("names" : Str), v)]) (if f = "names" then some v' else none) := by
  by_cases hw : f = "names"
  · subst hw
    rw [if_pos rfl]
    have q : List.lookup ("names" : Str) [(("names" : Str), v)] = some v := by simp [List.lookup]
    rw [q]
    exact r
  · rw [if_neg hw]
    have qw : (f == ("names" : Str)) = false := by simpa using hw
    have q2 : List.lookup f [(("names" : Str), v)] = none := by simp [List.lookup, qw]
    rw [q2]
    trivial
section
variable {X : Cx} {C fI : Addr}
/-- Ring(e) -/
def tMkRg (C : Addr) (ta : TA) : St → Hp → XK → Prop := fun σ H Q => ta σ H fun vs H1 => ∃ v, vs = [v] ∧ ∀ d, H1 d = none → Q (.ref C) (some d) (upd H1 d (.xd [(("names" : Str), v)]))
theorem pmk_rg {a : Expr} {ta : TA} {p pos : Pos} {k : Nat} (T : PySem.RgX.RgTxt X.K X.mg C fI) (hr : Room k X.A) (ha : PA X [a] ta) (hg : Gl X "Ring" := by rfl)
    (he : starEach (a :: []) X.env = (false, eval a X.env) :: starEach [] X.env := by rfl) (hpl : (backTo pos (starEach [] X.env)).any (·.1) = false := by rfl) :
    L2N.PMk X (.Call (.Name "Ring" p) [a] [] pos) (tMkRg C ta) := by
  intro pins s σ H Q I h
  refine wpAny_Call_Name_kw (ld_glob I hg T.gC ?_)
  refine PySem.W.callWith_K (h₀ := X.base) I.ok.mod.kin T.kC (thn (ha.run pos pins s σ H _ I h) fun us s1 hh => ?_) he hpl
  obtain ⟨vs, H1, I1, r1, v, ev, q1⟩ := hh
  subst ev
  refine ⟨I1.kIn, ?_⟩
  cases r1 with
  | cons rv rn =>
    rename_i v' us'
    cases rn
    show wpAny _ _ (call (.ref C) [v']) _ _ _
    have hlim := I1.nolimit
    obtain ⟨hp, g, dr, tk, os⟩ := s1
    refine wpAny_call (PySem.RgX.rg_made T I1.kIn hlim (by have := hr.dp; omega) fun h' tk' e d M => ?_)
    show L2N.MkP X pins σ Q (.ref e) ⟨h', g, dr, tk', os⟩
    obtain ⟨oe, fv, hoe, hc, hd, hdat, h1, h12⟩ := M.obj
    have hns := M.ns
    obtain ⟨G', g1, g2⟩ := restrict h' fun b => decide (b ≠ e)
    have gk : ∀ b, b ≠ e → G'.get? b = h'.get? b := fun b hb => g1 b (decide_eq_true hb)
    have ge : G'.get? e = none := g2 e (by simp)
    have old : ∀ b o, hp.get? b = some o → G'.get? b = some o := fun b o q => (gk b (Nat.ne_of_lt (Nat.lt_of_lt_of_le (Heap.lt_size q) M.new))).trans (M.keep b o q)
    have ob : ObjOk X.prog X.w (upd H1 d (.xd [(("names" : Str), v)])) G' d (.xd [(("names" : Str), v)]) :=
      ⟨_, hns.at (fun o q => (gk d M.dne).trans q), fun f => relO_rg rv f⟩
    have J : Inv X pins σ (upd H1 d (.xd [(("names" : Str), v)])) ⟨G', g, dr, tk', os⟩ := I1.laid (t' := tk') old M.dbig ob
    refine ⟨e, oe, fv, ⟨G', g, dr, tk', os⟩, _, .ref C, some d, rfl, J, fun b o q => ?_, ge, hoe, ⟨hc, hd, fun vs' e' => by rw [hdat] at e'; cases e'; exact h12⟩, hdat, h1, ?_, rfl, I1.bare, raises_own T.exC T.tyC, q1 d (I1.hok.fresh M.dbig)⟩
    · by_cases hb : b = e
      · have q' : G'.get? b = some o := q
        rw [hb, ge] at q'; cases q'
      · exact (gk b hb).symm.trans q
    · rw [upd_ne (Ne.symm M.dne)]
      exact I1.hok.fresh M.new
/-- raise Ring(e) -/
def tRaiseRg (C : Addr) (W : WX) (ta : TA) : TS := fun _ σ H => tMkRg C ta σ H fun cls d H' => W cls d σ H'
theorem ps_raiseRg {a : Expr} {ta : TA} {W : WX} {p pos pos2 : Pos} {k : Nat} (hc : X.calm = true) (T : PySem.RgX.RgTxt X.K X.mg C fI) (hr : Room k X.A) (tk : L2N.Takes X W) (ha : PA X [a] ta) (hg : Gl X "Ring" := by rfl)
    (he : starEach (a :: []) X.env = (false, eval a X.env) :: starEach [] X.env := by rfl) (hpl : (backTo pos (starEach [] X.env)).any (·.1) = false := by rfl) :
    PS X (.Raise (some (.Call (.Name "Ring" p) [a] [] pos)) none pos2) (tRaiseRg C W ta)   := L2N.ps_raise hc tk (pmk_rg T hr ha hg he hpl)
/-- low.by, low the exception that the suite holds (at a; its class cls, its dict d) -/
def tByRg (C : Addr) (a : Addr) (cls : Value) (d : Option Addr) (te : TE) : TE := fun σ H Q => te σ H fun x H1 => x = .ref a ∧ cls = .ref C ∧ ∃ (dd : Addr) (v : V), d = some dd ∧ H1 dd = some (.xd [(("names" : Str), v)]) ∧ Q v H1
theorem pe_byRg {a : Addr} {oe : Obj} {cls : Value} {d : Option Addr} {pn : List (Addr × Obj)} {e : Expr} {te : TE} {pos : Pos} (T : PySem.RgX.RgTxt X.K X.mg C fI) (hz : Zc cls d oe) (hf : ∃ vs, oe.data = .fields vs) (he : PE (X.suite a ((a, oe) :: pn)) e te)
    (hb : attributeBase e "names" X.env (eval e X.env) = eval e X.env := by rfl) :
    PE (X.suite a ((a, oe) :: pn)) (.Attribute e "names" pos) (tByRg C a cls d te) := by
  refine ⟨fun pins s σ H Q I h => ?_⟩
  refine attr_of hb (thn (he.run pins s σ H _ I h) fun u s1 hh => ?_)
  obtain ⟨x, H1, I1, rx, ex, ec, dd, v, ed, ea, q⟩ := hh
  subst ex
  obtain rfl : u = Value.ref a := rx
  subst ec
  subst ed
  obtain ⟨ha, _⟩ := I1.pin (a, oe) (List.mem_append_left _ List.mem_cons_self)
  obtain ⟨vs, hd⟩ := hf
  have hx : ObjOk X.prog X.w H1 s1.heap dd (.xd [(("names" : Str), v)]) := I1.hok dd _ ea
  obtain ⟨mA, hns, hr⟩ := hx
  obtain ⟨od, ho, hl⟩ := lookIn_ns hns
  have l : List.lookup ("names" : Str) [(("names" : Str), v)] = some v := by simp [List.lookup]
  obtain ⟨u, hu, ru⟩ := RelO.some_of (v := v) (o := mA "names") (by rw [← l]; exact hr "names")
  have J : PySem.W.InstAt s1.heap a oe C (some od) := ⟨ha, hz.1, by unfold PySem.W.notCls; rw [hd] <;> rfl, by rw [hz.2]; exact ho⟩
  exact HandSPX.exc_get I1.kIn J T.ga T.gg T.exC (PySem.W.findObj_own T.hdC T.noN rfl (by rw [hl, hu])) (handed_of ru) ⟨v, H1, I1.tok _, ru, q⟩
end
end L2

namespace W83
open PySem PySem.Spec PyProof.Rows L2
/-! the text by places -/
def tops (i : Nat) : Stmt := PySem.Challenge.pw_idlegraph_k83_whole_spans.main.body.getD i (.Pass ⟨0, 0, 0, 0⟩)
abbrev s_Ring_init : Stmt := inClass (tops 4) 0
abbrev s_wants : Stmt := tops 6
abbrev s_idle : Stmt := tops 7
abbrev s_why : Stmt := tops 8
abbrev s_Waiting_init : Stmt := inClass (tops 11) 0
abbrev s_Ready_init : Stmt := inClass (tops 13) 0
abbrev s_without : Stmt := tops 15
abbrev s_put_in_choice : Stmt := tops 16
abbrev s_put_in_let : Stmt := tops 17
abbrev s_put : Stmt := tops 19
abbrev s_reckoned : Stmt := tops 22
abbrev s_picked : Stmt := tops 23
abbrev s_Runner_init : Stmt := inClass (tops 27) 0
abbrev s_Runner_note : Stmt := inClass (tops 27) 1
abbrev s_Runner_numbered : Stmt := inClass (tops 27) 2
abbrev s_tell : Stmt := tops 28
abbrev s_take_up : Stmt := tops 29
abbrev s_fits : Stmt := tops 30
abbrev s_settled : Stmt := tops 31
abbrev s_let_in : Stmt := tops 32
abbrev s_shape_made : Stmt := tops 33
abbrev s_taken : Stmt := tops 34
abbrev s_framed : Stmt := tops 35
abbrev s_opened : Stmt := tops 36
abbrev s_take_step : Stmt := tops 37
abbrev s_run_on : Stmt := tops 38
abbrev s_outcome : Stmt := tops 39
abbrev s_Machine_init : Stmt := inClass (tops 41) 0
abbrev s_Machine_born : Stmt := inClass (tops 41) 1
abbrev s_Machine_born_all : Stmt := inClass (tops 41) 2
abbrev s_Machine_entered : Stmt := inClass (tops 41) 3
abbrev s_Machine_back : Stmt := inClass (tops 41) 4
abbrev s_Machine_ring : Stmt := inClass (tops 41) 5
abbrev s_Machine_go : Stmt := inClass (tops 41) 6
abbrev s_run : Stmt := tops 42
abbrev s_L_mix : Stmt := tops 44
abbrev s_L_expr : Stmt := tops 45
abbrev s_L_list : Stmt := tops 46
abbrev s_L_bindings : Stmt := tops 47
abbrev s_L_graph : Stmt := tops 48
abbrev s_L_cells : Stmt := tops 49
abbrev s_L_deal : Stmt := tops 50
abbrev s_L_draw : Stmt := tops 51
abbrev s_L_name : Stmt := tops 52
abbrev s_L_kind : Stmt := tops 53
abbrev s_L_leaf : Stmt := tops 54
abbrev s_L_own : Stmt := tops 55
abbrev s_L_let : Stmt := tops 56
abbrev s_L_choose : Stmt := tops 57
abbrev s_L_term : Stmt := tops 58
abbrev s_L_births : Stmt := tops 59
abbrev s_L_all_there : Stmt := tops 60
abbrev s_L_within : Stmt := tops 61
abbrev s_L_spans : Stmt := tops 62
abbrev s_L_open : Stmt := tops 63
abbrev s_law : Stmt := tops 64
/-! the defs as data -/
def d_Ring_init : He.DefD := ⟨("Ring", some "__init__"), "__init__", "Ring.__init__", defArgs s_Ring_init, defBody s_Ring_init, defScope s_Ring_init, [], []⟩
def d_wants : He.DefD := ⟨("wants", none), "wants", "wants", defArgs s_wants, defBody s_wants, defScope s_wants, [], []⟩
def d_idle : He.DefD := ⟨("idle", none), "idle", "idle", defArgs s_idle, defBody s_idle, defScope s_idle, [], []⟩
def d_why : He.DefD := ⟨("why", none), "why", "why", defArgs s_why, defBody s_why, defScope s_why, [], []⟩
def d_Waiting_init : He.DefD := ⟨("Waiting", some "__init__"), "__init__", "Waiting.__init__", defArgs s_Waiting_init, defBody s_Waiting_init, defScope s_Waiting_init, [], []⟩
def d_Ready_init : He.DefD := ⟨("Ready", some "__init__"), "__init__", "Ready.__init__", defArgs s_Ready_init, defBody s_Ready_init, defScope s_Ready_init, [], []⟩
def d_without : He.DefD := ⟨("without", none), "without", "without", defArgs s_without, defBody s_without, defScope s_without, [], []⟩
def d_put_in_choice : He.DefD := ⟨("put_in_choice", none), "put_in_choice", "put_in_choice", defArgs s_put_in_choice, defBody s_put_in_choice, defScope s_put_in_choice, [], []⟩
def d_put_in_let : He.DefD := ⟨("put_in_let", none), "put_in_let", "put_in_let", defArgs s_put_in_let, defBody s_put_in_let, defScope s_put_in_let, [], []⟩
def d_put : He.DefD := ⟨("put", none), "put", "put", defArgs s_put, defBody s_put, defScope s_put, [], []⟩
def d_reckoned : He.DefD := ⟨("reckoned", none), "reckoned", "reckoned", defArgs s_reckoned, defBody s_reckoned, defScope s_reckoned, [], []⟩
def d_picked : He.DefD := ⟨("picked", none), "picked", "picked", defArgs s_picked, defBody s_picked, defScope s_picked, [], []⟩
def d_Runner_init : He.DefD := ⟨("Runner", some "__init__"), "__init__", "Runner.__init__", defArgs s_Runner_init, defBody s_Runner_init, defScope s_Runner_init, [], []⟩
def d_Runner_note : He.DefD := ⟨("Machine", some "note"), "note", "Runner.note", defArgs s_Runner_note, defBody s_Runner_note, defScope s_Runner_note, [], []⟩
def d_Runner_numbered : He.DefD := ⟨("Machine", some "numbered"), "numbered", "Runner.numbered", defArgs s_Runner_numbered, defBody s_Runner_numbered, defScope s_Runner_numbered, [], []⟩
def d_tell : He.DefD := ⟨("tell", none), "tell", "tell", defArgs s_tell, defBody s_tell, defScope s_tell, [], []⟩
def d_take_up : He.DefD := ⟨("take_up", none), "take_up", "take_up", defArgs s_take_up, defBody s_take_up, defScope s_take_up, [], []⟩
def d_fits : He.DefD := ⟨("fits", none), "fits", "fits", defArgs s_fits, defBody s_fits, defScope s_fits, [], []⟩
def d_settled : He.DefD := ⟨("settled", none), "settled", "settled", defArgs s_settled, defBody s_settled, defScope s_settled, [], []⟩
def d_let_in : He.DefD := ⟨("let_in", none), "let_in", "let_in", defArgs s_let_in, defBody s_let_in, defScope s_let_in, [], []⟩
def d_shape_made : He.DefD := ⟨("shape_made", none), "shape_made", "shape_made", defArgs s_shape_made, defBody s_shape_made, defScope s_shape_made, [], []⟩
def d_taken : He.DefD := ⟨("taken", none), "taken", "taken", defArgs s_taken, defBody s_taken, defScope s_taken, [], []⟩
def d_framed : He.DefD := ⟨("framed", none), "framed", "framed", defArgs s_framed, defBody s_framed, defScope s_framed, [], []⟩
def d_opened : He.DefD := ⟨("opened", none), "opened", "opened", defArgs s_opened, defBody s_opened, defScope s_opened, [], []⟩
def d_take_step : He.DefD := ⟨("take_step", none), "take_step", "take_step", defArgs s_take_step, defBody s_take_step, defScope s_take_step, [], []⟩
def d_run_on : He.DefD := ⟨("run_on", none), "run_on", "run_on", defArgs s_run_on, defBody s_run_on, defScope s_run_on, [], []⟩
def d_outcome : He.DefD := ⟨("outcome", none), "outcome", "outcome", defArgs s_outcome, defBody s_outcome, defScope s_outcome, [], []⟩
def d_Machine_init : He.DefD := ⟨("Machine", some "__init__"), "__init__", "Machine.__init__", defArgs s_Machine_init, defBody s_Machine_init, defScope s_Machine_init, [.int 8], []⟩
def d_Machine_born : He.DefD := ⟨("Machine", some "born"), "born", "Machine.born", defArgs s_Machine_born, defBody s_Machine_born, defScope s_Machine_born, [], []⟩
def d_Machine_born_all : He.DefD := ⟨("Machine", some "born_all"), "born_all", "Machine.born_all", defArgs s_Machine_born_all, defBody s_Machine_born_all, defScope s_Machine_born_all, [], []⟩
def d_Machine_entered : He.DefD := ⟨("Machine", some "entered"), "entered", "Machine.entered", defArgs s_Machine_entered, defBody s_Machine_entered, defScope s_Machine_entered, [], []⟩
def d_Machine_back : He.DefD := ⟨("Machine", some "back"), "back", "Machine.back", defArgs s_Machine_back, defBody s_Machine_back, defScope s_Machine_back, [], []⟩
def d_Machine_ring : He.DefD := ⟨("Machine", some "ring"), "ring", "Machine.ring", defArgs s_Machine_ring, defBody s_Machine_ring, defScope s_Machine_ring, [], []⟩
def d_Machine_go : He.DefD := ⟨("Machine", some "go"), "go", "Machine.go", defArgs s_Machine_go, defBody s_Machine_go, defScope s_Machine_go, [], []⟩
def d_run : He.DefD := ⟨("run", none), "run", "run", defArgs s_run, defBody s_run, defScope s_run, [.int 8, .int 400], []⟩
def d_L_mix : He.DefD := ⟨("_law_mix", none), "_law_mix", "_law_mix", defArgs s_L_mix, defBody s_L_mix, defScope s_L_mix, [], []⟩
def d_L_expr : He.DefD := ⟨("_law_expr", none), "_law_expr", "_law_expr", defArgs s_L_expr, defBody s_L_expr, defScope s_L_expr, [], []⟩
def d_L_list : He.DefD := ⟨("_law_list", none), "_law_list", "_law_list", defArgs s_L_list, defBody s_L_list, defScope s_L_list, [], []⟩
def d_L_bindings : He.DefD := ⟨("_law_bindings", none), "_law_bindings", "_law_bindings", defArgs s_L_bindings, defBody s_L_bindings, defScope s_L_bindings, [], []⟩
def d_L_graph : He.DefD := ⟨("_law_graph", none), "_law_graph", "_law_graph", defArgs s_L_graph, defBody s_L_graph, defScope s_L_graph, [], []⟩
def d_L_cells : He.DefD := ⟨("_law_cells", none), "_law_cells", "_law_cells", defArgs s_L_cells, defBody s_L_cells, defScope s_L_cells, [], []⟩
def d_L_deal : He.DefD := ⟨("_law_deal", none), "_law_deal", "_law_deal", defArgs s_L_deal, defBody s_L_deal, defScope s_L_deal, [], []⟩
def d_L_draw : He.DefD := ⟨("_law_draw", none), "_law_draw", "_law_draw", defArgs s_L_draw, defBody s_L_draw, defScope s_L_draw, [], []⟩
def d_L_name : He.DefD := ⟨("_law_name", none), "_law_name", "_law_name", defArgs s_L_name, defBody s_L_name, defScope s_L_name, [], []⟩
def d_L_kind : He.DefD := ⟨("_law_kind", none), "_law_kind", "_law_kind", defArgs s_L_kind, defBody s_L_kind, defScope s_L_kind, [], []⟩
def d_L_leaf : He.DefD := ⟨("_law_leaf", none), "_law_leaf", "_law_leaf", defArgs s_L_leaf, defBody s_L_leaf, defScope s_L_leaf, [], []⟩
def d_L_own : He.DefD := ⟨("_law_own", none), "_law_own", "_law_own", defArgs s_L_own, defBody s_L_own, defScope s_L_own, [], []⟩
def d_L_let : He.DefD := ⟨("_law_let", none), "_law_let", "_law_let", defArgs s_L_let, defBody s_L_let, defScope s_L_let, [], []⟩
def d_L_choose : He.DefD := ⟨("_law_choose", none), "_law_choose", "_law_choose", defArgs s_L_choose, defBody s_L_choose, defScope s_L_choose, [], []⟩
def d_L_term : He.DefD := ⟨("_law_term", none), "_law_term", "_law_term", defArgs s_L_term, defBody s_L_term, defScope s_L_term, [], []⟩
def d_L_births : He.DefD := ⟨("_law_births", none), "_law_births", "_law_births", defArgs s_L_births, defBody s_L_births, defScope s_L_births, [], []⟩
def d_L_all_there : He.DefD := ⟨("_law_all_there", none), "_law_all_there", "_law_all_there", defArgs s_L_all_there, defBody s_L_all_there, defScope s_L_all_there, [], []⟩
def d_L_within : He.DefD := ⟨("_law_within", none), "_law_within", "_law_within", defArgs s_L_within, defBody s_L_within, defScope s_L_within, [], []⟩
def d_L_spans : He.DefD := ⟨("_law_spans", none), "_law_spans", "_law_spans", defArgs s_L_spans, defBody s_L_spans, defScope s_L_spans, [], []⟩
def d_L_open : He.DefD := ⟨("_law_open", none), "_law_open", "_law_open", defArgs s_L_open, defBody s_L_open, defScope s_L_open, [], []⟩
def d_law : He.DefD := ⟨("law", none), "law", "law", defArgs s_law, defBody s_law, defScope s_law, [], []⟩
def fn0 : List He.DefD := [d_Ring_init, d_wants, d_idle, d_why, d_Waiting_init, d_Ready_init, d_without, d_put_in_choice, d_put_in_let, d_put, d_reckoned, d_picked, d_Runner_init, d_Runner_note, d_Runner_numbered, d_tell, d_take_up, d_fits, d_settled, d_let_in, d_shape_made, d_taken, d_framed, d_opened, d_take_step, d_run_on, d_outcome, d_Machine_init, d_Machine_born, d_Machine_born_all]
def fn1 : List He.DefD := [d_Machine_entered, d_Machine_back, d_Machine_ring, d_Machine_go, d_run, d_L_mix, d_L_expr, d_L_list, d_L_bindings, d_L_graph, d_L_cells, d_L_deal, d_L_draw, d_L_name, d_L_kind, d_L_leaf, d_L_own, d_L_let, d_L_choose, d_L_term, d_L_births, d_L_all_there, d_L_within, d_L_spans, d_L_open, d_law]
def fns : List He.DefD := fn0 ++ fn1
/-! the facts -/
def fa0 : List He.Fa := [.glo "NoThing", .glo "Ring", .glo "wants", .glo "idle", .glo "why", .glo "Waiting", .glo "Underway", .glo "Ready", .glo "without", .glo "put_in_choice", .glo "put_in_let", .glo "put", .glo "reckoned", .glo "picked", .glo "Runner", .glo "tell", .glo "take_up", .glo "fits", .glo "settled", .glo "let_in", .glo "shape_made", .glo "taken", .glo "framed", .glo "opened", .glo "take_step", .glo "run_on", .glo "outcome", .glo "Machine", .glo "run", .glo "_law_mix"]
def fa1 : List He.Fa := [.glo "_law_expr", .glo "_law_list", .glo "_law_bindings", .glo "_law_graph", .glo "_law_cells", .glo "_law_deal", .glo "_law_draw", .glo "_law_name", .glo "_law_kind", .glo "_law_leaf", .glo "_law_own", .glo "_law_let", .glo "_law_choose", .glo "_law_term", .glo "_law_births", .glo "_law_all_there", .glo "_law_within", .glo "_law_spans", .glo "_law_open", .glo "law", .free "len", .free "str", .free "tuple", .free "list", .free "dict", .free "enumerate", .free "reversed", .free "zip", .free "isinstance", .free "range"]
def fa2 : List He.Fa := [.free "int", .free "max", .int "ROUND" 1000000000000000000, .glo "VALUES", .glo "MARKS", .cls "Machine", .cls "Waiting", .cls "Ready", .cls "Underway", .noat "Machine" "hand", .noat "Machine" "depth", .noat "Machine" "pile", .noat "Machine" "rest", .noat "Machine" "words", .noat "Machine" "steps", .noat "Machine" "cells", .noat "Machine" "firsts", .noat "Machine" "labels", .noat "Machine" "log", .noat "Machine" "ended", .noat "Machine" "what", .noat "Machine" "things", .noat "Waiting" "text", .noat "Ready" "value", .noat "Ring" "names", .meth "Machine" "note", .meth "Machine" "numbered", .meth "Machine" "born", .meth "Machine" "born_all", .meth "Machine" "entered"]
def fa3 : List He.Fa := [.meth "Machine" "back", .meth "Machine" "ring", .meth "Machine" "go", .mkr "Machine", .mkr "Waiting", .mkr "Ready", .exm "Ring" "Ring" true]
def fas : List He.Fa := fa0 ++ fa1 ++ fa2 ++ fa3
def lo0 : List Str := ["_wall", "IdleError", "NoThing", "Ring", "wants", "idle", "why", "Node", "Waiting", "Underway", "Ready", "without", "put_in_choice", "put_in_let", "put_in_rows", "put", "ROUND", "reckoned", "picked", "VALUES", "MARKS", "Runner", "tell", "take_up", "fits", "settled", "let_in", "shape_made", "taken", "framed"]
def lo1 : List Str := ["opened", "take_step", "run_on", "outcome", "Machine", "run", "_law_mix", "_law_expr", "_law_list", "_law_bindings", "_law_graph", "_law_cells", "_law_deal", "_law_draw", "_law_name", "_law_kind", "_law_leaf", "_law_own", "_law_let", "_law_choose", "_law_term", "_law_births", "_law_all_there", "_law_within", "_law_spans", "_law_open"]
def loo : List Str := lo0 ++ lo1
end W83

namespace W83
open PySem PySem.Spec PyProof.Rows L2
/-- further facts that are asked of the top -/
def pairB (K : PySem.W.Frag) (a b : Str) (r : Bool) : Bool := decide (PySem.W.kitOne K (.ref (He.ga K a)) (.ref (He.ga K b)) = some r)
def insB (K : PySem.W.Frag) (x : Str) : Bool := He.eqO (PySem.W.findIn K (.ref (He.ga K x)) "__class__") (some (some (.builtin "object.__class__"))) && decide (PySem.W.mroIn K (He.ga K x) (.type "object") = some true)
def rgB (K : PySem.W.Frag) (C : Addr) : Bool := match K.lookup C with
  | some ⟨.type "type", _, .cls cd, sl⟩ => (match cd.mro, sl.toList with
    | .ref D :: bm, [_, _, _, _, some (.builtin n), _] => decide (D = C) && (decide (n = "ValueError.__new__") && (!cd.hasDel && (cd.hasDict && PySem.HandSPX.refsVE bm)))
    | _, _ => false)
  | _ => false
theorem rgB_ok {K : PySem.W.Frag} {C : Addr} (h : rgB K C = true) : ∃ nm q N bs bm sn sub ab col dd k0 k1 k2 k3 k5, K.lookup C = some (excClassObj nm q C N bs bm true sn sub ab col dd k0 k1 k2 k3 k5 "ValueError.__new__") ∧ PySem.HandSPX.refsVE bm = true := by
  unfold rgB at h
  split at h
  · rename_i dd cd sl ho
    split at h
    · rename_i D bm k0 k1 k2 k3 n k5 hm hs
      simp only [Bool.and_eq_true, decide_eq_true_eq, Bool.not_eq_true'] at h
      obtain ⟨e1, e2, e3, e4, e5⟩ := h
      obtain ⟨nm, bs, mro, ns, qn, hd, sn, sub, ab, col, del⟩ := cd
      obtain ⟨l⟩ := sl
      simp only at hm e3 e4 hs
      subst e1 e2 hm e3 e4 hs
      exact ⟨nm, qn, ns, bs, bm, sn, sub, ab, col, dd, k0, k1, k2, k3, k5, ho, e5⟩
    · cases h
  · cases h
def exB (K : PySem.W.Frag) : Bool :=
  He.tupB K "VALUES" [.str "number", .str "fun", .str "made"] && He.tupB K "MARKS" [.str "at", .str "shut", .str "ring"] &&
  (pairB K "Waiting" "Ready" false && pairB K "Waiting" "Waiting" true && pairB K "Ready" "Ready" true && pairB K "Underway" "Ready" false && pairB K "Underway" "Waiting" false) &&
  (insB K "Waiting" && insB K "Ready" && insB K "Underway") &&
  He.eqO (PySem.W.specialIn K (.builtin "object.__class__") "__get__") (some (some (.builtin "getset_descriptor.__get__"))) && decide (PySem.W.takesIn K (.builtin "object.__class__") = some true) &&
  (PySem.W.makesIn K (He.ga K "Underway") && He.eqO (PySem.W.findIn K (.ref (He.ga K "Underway")) "__init__") (some (some (.builtin "object.__init__"))) && PySem.W.keepIn K (.ref (He.ga K "Underway"))) &&
  (PySem.W.readsIn K (He.ga K "Runner") (.type "type") && He.eqO (PySem.W.specialIn K (.ref (He.ga K "Runner")) "__getattribute__") (some (some (.builtin "type.__getattribute__"))) &&
    (match PySem.W.findCls K (.ref (He.ga K "Runner")) (.type "type") "__init__" with
    | some (.val (.ref a)) => decide (a = He.ma K (He.ga K "Runner") "__init__")
    | _ => false)) &&
  (He.eqO (PySem.W.findIn K (.ref (He.ga K "Ring")) "__setattr__") (some (some (.builtin "object.__setattr__"))) && He.eqO (PySem.W.findIn K (.ref (He.ga K "Ring")) "__getattribute__") (some (some (.builtin "BaseException.__getattribute__"))) &&
    He.eqO (PySem.W.findIn K (.ref (He.ga K "Ring")) "__getattr__") (some none) && He.eqO (PySem.W.findIn K (.ref (He.ga K "Ring")) "__init__") (some (some (.ref (He.ma K (He.ga K "Ring") "__init__")))) &&
    decide (PySem.W.typeIn K (.ref (He.ma K (He.ga K "Ring") "__init__")) = some (.type "function")) && PySem.W.keepIn K (.ref (He.ga K "Ring")) && rgB K (He.ga K "Ring") &&
    decide (PySem.W.subIn K (.ref (He.ga K "Ring")) (.type "BaseException") = some true) && decide (PySem.W.typeIn K (.ref (He.ga K "Ring")) = some (.type "type")) && PySem.W.hasDictIn K (He.ga K "Ring"))

/-- what these facts say -/
structure TopX (K : PySem.W.Frag) : Prop where
  vals : ∀ H : Hp, SqT K H (He.ga K "VALUES") [.str "number", .str "fun", .str "made"]
  mrks : ∀ H : Hp, SqT K H (He.ga K "MARKS") [.str "at", .str "shut", .str "ring"]
  wr : PySem.W.kitOne K (.ref (He.ga K "Waiting")) (.ref (He.ga K "Ready")) = some false
  ww : PySem.W.kitOne K (.ref (He.ga K "Waiting")) (.ref (He.ga K "Waiting")) = some true
  rr : PySem.W.kitOne K (.ref (He.ga K "Ready")) (.ref (He.ga K "Ready")) = some true
  ur : PySem.W.kitOne K (.ref (He.ga K "Underway")) (.ref (He.ga K "Ready")) = some false
  uw : PySem.W.kitOne K (.ref (He.ga K "Underway")) (.ref (He.ga K "Waiting")) = some false
  iW : PySem.W.findIn K (.ref (He.ga K "Waiting")) "__class__" = some (some (.builtin "object.__class__")) ∧ PySem.W.mroIn K (He.ga K "Waiting") (.type "object") = some true
  iR : PySem.W.findIn K (.ref (He.ga K "Ready")) "__class__" = some (some (.builtin "object.__class__")) ∧ PySem.W.mroIn K (He.ga K "Ready") (.type "object") = some true
  iU : PySem.W.findIn K (.ref (He.ga K "Underway")) "__class__" = some (some (.builtin "object.__class__")) ∧ PySem.W.mroIn K (He.ga K "Underway") (.type "object") = some true
  cg : PySem.W.specialIn K (.builtin "object.__class__") "__get__" = some (some (.builtin "getset_descriptor.__get__"))
  ct : PySem.W.takesIn K (.builtin "object.__class__") = some true
  mkU : MkO K (He.ga K "Underway")
  rdR : ClX.CRead K (He.ga K "Runner") (.type "type")
  inR : PySem.W.findCls K (.ref (He.ga K "Runner")) (.type "type") "__init__" = some (.val (.ref (He.ma K (He.ga K "Runner") "__init__")))
  rg : (PySem.W.findIn K (.ref (He.ga K "Ring")) "__setattr__" = some (some (.builtin "object.__setattr__")) ∧ PySem.W.findIn K (.ref (He.ga K "Ring")) "__getattribute__" = some (some (.builtin "BaseException.__getattribute__")) ∧
    PySem.W.findIn K (.ref (He.ga K "Ring")) "__getattr__" = some none ∧ PySem.W.findIn K (.ref (He.ga K "Ring")) "__init__" = some (some (.ref (He.ma K (He.ga K "Ring") "__init__")))) ∧
    (PySem.W.typeIn K (.ref (He.ma K (He.ga K "Ring") "__init__")) = some (.type "function") ∧ PySem.W.keepIn K (.ref (He.ga K "Ring")) = true ∧ rgB K (He.ga K "Ring") = true ∧
    PySem.W.subIn K (.ref (He.ga K "Ring")) (.type "BaseException") = some true ∧ PySem.W.typeIn K (.ref (He.ga K "Ring")) = some (.type "type") ∧ PySem.W.hasDictIn K (He.ga K "Ring") = true)
theorem inR_ok {K : PySem.W.Frag} (h : (match PySem.W.findCls K (.ref (He.ga K "Runner")) (.type "type") "__init__" with
    | some (.val (.ref a)) => decide (a = He.ma K (He.ga K "Runner") "__init__")
    | _ => false) = true) : PySem.W.findCls K (.ref (He.ga K "Runner")) (.type "type") "__init__" = some (.val (.ref (He.ma K (He.ga K "Runner") "__init__"))) := by
  split at h
  · rename_i a e
    rw [e, of_decide_eq_true h]
  · cases h
theorem exB_ok {K : PySem.W.Frag} (h : exB K = true) : TopX K := by
  unfold exB pairB insB at h
  obtain ⟨h, hf⟩ := He.ba h
  obtain ⟨h, he⟩ := He.ba h
  obtain ⟨h, hd⟩ := He.ba h
  obtain ⟨h, hct⟩ := He.ba h
  obtain ⟨h, hcg⟩ := He.ba h
  obtain ⟨h, hb⟩ := He.ba h
  obtain ⟨h, ha⟩ := He.ba h
  obtain ⟨h1, h2⟩ := He.ba h
  simp only [Bool.and_eq_true, decide_eq_true_eq, He.eqO] at ha hb hct hcg hd hf
  obtain ⟨⟨⟨⟨a1, a2⟩, a3⟩, a4⟩, a5⟩ := ha
  obtain ⟨⟨b1, b2⟩, b3⟩ := hb
  obtain ⟨⟨d1, d2⟩, d3⟩ := hd
  obtain ⟨he, e3⟩ := He.ba he
  obtain ⟨e1, e2⟩ := He.ba he
  obtain ⟨⟨⟨⟨⟨⟨⟨⟨⟨f1, f2⟩, f3⟩, f4⟩, f5⟩, f6⟩, f7⟩, f8⟩, f9⟩, f10⟩ := hf
  exact ⟨fun H => He.tupB_ok h1 H, fun H => He.tupB_ok h2 H, a1, a2, a3, a4, a5, b1, b2, b3, hcg, hct, ⟨d1, d2, b3.2, d3⟩, ⟨e1, He.eqO_ok e2⟩, inR_ok e3, ⟨f1, f2, f3, f4⟩, f5, f6, f7, f8, f9, f10⟩
/-- what stands behind the top -/
structure Top (K : PySem.W.Frag) (mg : Str → Option Value) : Prop where
  ns : ∃ h, K.In h ∧ h.Ns mainGlobals mg
  says : He.SaysD fas fns K
  x : TopX K
section
variable {K : PySem.W.Frag} {mg : Str → Option Value}
theorem Top.glo (T : Top K mg) {x : Str} (c : (He.Fa.glo x).ok K = true) : mg x = some (.ref (He.ga K x)) := by
  obtain ⟨h, X, G⟩ := T.ns
  exact He.glo_ok X G c
theorem Top.free (T : Top K mg) {x : Str} (c : (He.Fa.free x).ok K = true) : mg x = none := by
  obtain ⟨h, X, G⟩ := T.ns
  exact He.free_ok X G c
theorem Top.g_NoThing (T : Top K mg) : mg "NoThing" = some (.ref (He.ga K "NoThing")) := T.glo (T.says.fact 0)
theorem Top.g_Ring (T : Top K mg) : mg "Ring" = some (.ref (He.ga K "Ring")) := T.glo (T.says.fact 1)
theorem Top.g_wants (T : Top K mg) : mg "wants" = some (.ref (He.ga K "wants")) := T.glo (T.says.fact 2)
theorem Top.g_idle (T : Top K mg) : mg "idle" = some (.ref (He.ga K "idle")) := T.glo (T.says.fact 3)
theorem Top.g_why (T : Top K mg) : mg "why" = some (.ref (He.ga K "why")) := T.glo (T.says.fact 4)
theorem Top.g_Waiting (T : Top K mg) : mg "Waiting" = some (.ref (He.ga K "Waiting")) := T.glo (T.says.fact 5)
theorem Top.g_Underway (T : Top K mg) : mg "Underway" = some (.ref (He.ga K "Underway")) := T.glo (T.says.fact 6)
theorem Top.g_Ready (T : Top K mg) : mg "Ready" = some (.ref (He.ga K "Ready")) := T.glo (T.says.fact 7)
theorem Top.g_without (T : Top K mg) : mg "without" = some (.ref (He.ga K "without")) := T.glo (T.says.fact 8)
theorem Top.g_put_in_choice (T : Top K mg) : mg "put_in_choice" = some (.ref (He.ga K "put_in_choice")) := T.glo (T.says.fact 9)
theorem Top.g_put_in_let (T : Top K mg) : mg "put_in_let" = some (.ref (He.ga K "put_in_let")) := T.glo (T.says.fact 10)
theorem Top.g_put (T : Top K mg) : mg "put" = some (.ref (He.ga K "put")) := T.glo (T.says.fact 11)
theorem Top.g_reckoned (T : Top K mg) : mg "reckoned" = some (.ref (He.ga K "reckoned")) := T.glo (T.says.fact 12)
theorem Top.g_picked (T : Top K mg) : mg "picked" = some (.ref (He.ga K "picked")) := T.glo (T.says.fact 13)
theorem Top.g_Runner (T : Top K mg) : mg "Runner" = some (.ref (He.ga K "Runner")) := T.glo (T.says.fact 14)
theorem Top.g_tell (T : Top K mg) : mg "tell" = some (.ref (He.ga K "tell")) := T.glo (T.says.fact 15)
theorem Top.g_take_up (T : Top K mg) : mg "take_up" = some (.ref (He.ga K "take_up")) := T.glo (T.says.fact 16)
theorem Top.g_fits (T : Top K mg) : mg "fits" = some (.ref (He.ga K "fits")) := T.glo (T.says.fact 17)
theorem Top.g_settled (T : Top K mg) : mg "settled" = some (.ref (He.ga K "settled")) := T.glo (T.says.fact 18)
theorem Top.g_let_in (T : Top K mg) : mg "let_in" = some (.ref (He.ga K "let_in")) := T.glo (T.says.fact 19)
theorem Top.g_shape_made (T : Top K mg) : mg "shape_made" = some (.ref (He.ga K "shape_made")) := T.glo (T.says.fact 20)
theorem Top.g_taken (T : Top K mg) : mg "taken" = some (.ref (He.ga K "taken")) := T.glo (T.says.fact 21)
theorem Top.g_framed (T : Top K mg) : mg "framed" = some (.ref (He.ga K "framed")) := T.glo (T.says.fact 22)
theorem Top.g_opened (T : Top K mg) : mg "opened" = some (.ref (He.ga K "opened")) := T.glo (T.says.fact 23)
theorem Top.g_take_step (T : Top K mg) : mg "take_step" = some (.ref (He.ga K "take_step")) := T.glo (T.says.fact 24)
theorem Top.g_run_on (T : Top K mg) : mg "run_on" = some (.ref (He.ga K "run_on")) := T.glo (T.says.fact 25)
theorem Top.g_outcome (T : Top K mg) : mg "outcome" = some (.ref (He.ga K "outcome")) := T.glo (T.says.fact 26)
theorem Top.g_Machine (T : Top K mg) : mg "Machine" = some (.ref (He.ga K "Machine")) := T.glo (T.says.fact 27)
theorem Top.g_run (T : Top K mg) : mg "run" = some (.ref (He.ga K "run")) := T.glo (T.says.fact 28)
theorem Top.g_law_mix (T : Top K mg) : mg "_law_mix" = some (.ref (He.ga K "_law_mix")) := T.glo (T.says.fact 29)
theorem Top.g_law_expr (T : Top K mg) : mg "_law_expr" = some (.ref (He.ga K "_law_expr")) := T.glo (T.says.fact 30)
theorem Top.g_law_list (T : Top K mg) : mg "_law_list" = some (.ref (He.ga K "_law_list")) := T.glo (T.says.fact 31)
theorem Top.g_law_bindings (T : Top K mg) : mg "_law_bindings" = some (.ref (He.ga K "_law_bindings")) := T.glo (T.says.fact 32)
theorem Top.g_law_graph (T : Top K mg) : mg "_law_graph" = some (.ref (He.ga K "_law_graph")) := T.glo (T.says.fact 33)
theorem Top.g_law_cells (T : Top K mg) : mg "_law_cells" = some (.ref (He.ga K "_law_cells")) := T.glo (T.says.fact 34)
theorem Top.g_law_deal (T : Top K mg) : mg "_law_deal" = some (.ref (He.ga K "_law_deal")) := T.glo (T.says.fact 35)
theorem Top.g_law_draw (T : Top K mg) : mg "_law_draw" = some (.ref (He.ga K "_law_draw")) := T.glo (T.says.fact 36)
theorem Top.g_law_name (T : Top K mg) : mg "_law_name" = some (.ref (He.ga K "_law_name")) := T.glo (T.says.fact 37)
theorem Top.g_law_kind (T : Top K mg) : mg "_law_kind" = some (.ref (He.ga K "_law_kind")) := T.glo (T.says.fact 38)
theorem Top.g_law_leaf (T : Top K mg) : mg "_law_leaf" = some (.ref (He.ga K "_law_leaf")) := T.glo (T.says.fact 39)
theorem Top.g_law_own (T : Top K mg) : mg "_law_own" = some (.ref (He.ga K "_law_own")) := T.glo (T.says.fact 40)
theorem Top.g_law_let (T : Top K mg) : mg "_law_let" = some (.ref (He.ga K "_law_let")) := T.glo (T.says.fact 41)
theorem Top.g_law_choose (T : Top K mg) : mg "_law_choose" = some (.ref (He.ga K "_law_choose")) := T.glo (T.says.fact 42)
theorem Top.g_law_term (T : Top K mg) : mg "_law_term" = some (.ref (He.ga K "_law_term")) := T.glo (T.says.fact 43)
theorem Top.g_law_births (T : Top K mg) : mg "_law_births" = some (.ref (He.ga K "_law_births")) := T.glo (T.says.fact 44)
theorem Top.g_law_all_there (T : Top K mg) : mg "_law_all_there" = some (.ref (He.ga K "_law_all_there")) := T.glo (T.says.fact 45)
theorem Top.g_law_within (T : Top K mg) : mg "_law_within" = some (.ref (He.ga K "_law_within")) := T.glo (T.says.fact 46)
theorem Top.g_law_spans (T : Top K mg) : mg "_law_spans" = some (.ref (He.ga K "_law_spans")) := T.glo (T.says.fact 47)
theorem Top.g_law_open (T : Top K mg) : mg "_law_open" = some (.ref (He.ga K "_law_open")) := T.glo (T.says.fact 48)
theorem Top.g_law (T : Top K mg) : mg "law" = some (.ref (He.ga K "law")) := T.glo (T.says.fact 49)
theorem Top.z_len (T : Top K mg) : mg "len" = none := T.free (T.says.fact 50)
theorem Top.z_str (T : Top K mg) : mg "str" = none := T.free (T.says.fact 51)
theorem Top.z_tuple (T : Top K mg) : mg "tuple" = none := T.free (T.says.fact 52)
theorem Top.z_list (T : Top K mg) : mg "list" = none := T.free (T.says.fact 53)
theorem Top.z_dict (T : Top K mg) : mg "dict" = none := T.free (T.says.fact 54)
theorem Top.z_enumerate (T : Top K mg) : mg "enumerate" = none := T.free (T.says.fact 55)
theorem Top.z_reversed (T : Top K mg) : mg "reversed" = none := T.free (T.says.fact 56)
theorem Top.z_zip (T : Top K mg) : mg "zip" = none := T.free (T.says.fact 57)
theorem Top.z_isinstance (T : Top K mg) : mg "isinstance" = none := T.free (T.says.fact 58)
theorem Top.z_range (T : Top K mg) : mg "range" = none := T.free (T.says.fact 59)
theorem Top.z_int (T : Top K mg) : mg "int" = none := T.free (T.says.fact 60)
theorem Top.z_max (T : Top K mg) : mg "max" = none := T.free (T.says.fact 61)
theorem Top.i_ROUND (T : Top K mg) : ∃ t, mg "ROUND" = some (.int 1000000000000000000 t) := by
  obtain ⟨h, X, G⟩ := T.ns
  exact He.int_ok X G (T.says.fact 62)
theorem Top.g_VALUES (T : Top K mg) : mg "VALUES" = some (.ref (He.ga K "VALUES")) := T.glo (T.says.fact 63)
theorem Top.g_MARKS (T : Top K mg) : mg "MARKS" = some (.ref (He.ga K "MARKS")) := T.glo (T.says.fact 64)
theorem Top.c_Machine (T : Top K mg) : Cls K (He.ga K "Machine") := He.cls_ok (T.says.fact 65)
theorem Top.c_Waiting (T : Top K mg) : Cls K (He.ga K "Waiting") := He.cls_ok (T.says.fact 66)
theorem Top.c_Ready (T : Top K mg) : Cls K (He.ga K "Ready") := He.cls_ok (T.says.fact 67)
theorem Top.c_Underway (T : Top K mg) : Cls K (He.ga K "Underway") := He.cls_ok (T.says.fact 68)
theorem Top.n_Machine_hand (T : Top K mg) : NoAttr K (He.ga K "Machine") "hand" := He.noat_ok (T.says.fact 69)
theorem Top.n_Machine_depth (T : Top K mg) : NoAttr K (He.ga K "Machine") "depth" := He.noat_ok (T.says.fact 70)
theorem Top.n_Machine_pile (T : Top K mg) : NoAttr K (He.ga K "Machine") "pile" := He.noat_ok (T.says.fact 71)
theorem Top.n_Machine_rest (T : Top K mg) : NoAttr K (He.ga K "Machine") "rest" := He.noat_ok (T.says.fact 72)
theorem Top.n_Machine_words (T : Top K mg) : NoAttr K (He.ga K "Machine") "words" := He.noat_ok (T.says.fact 73)
theorem Top.n_Machine_steps (T : Top K mg) : NoAttr K (He.ga K "Machine") "steps" := He.noat_ok (T.says.fact 74)
theorem Top.n_Machine_cells (T : Top K mg) : NoAttr K (He.ga K "Machine") "cells" := He.noat_ok (T.says.fact 75)
theorem Top.n_Machine_firsts (T : Top K mg) : NoAttr K (He.ga K "Machine") "firsts" := He.noat_ok (T.says.fact 76)
theorem Top.n_Machine_labels (T : Top K mg) : NoAttr K (He.ga K "Machine") "labels" := He.noat_ok (T.says.fact 77)
theorem Top.n_Machine_log (T : Top K mg) : NoAttr K (He.ga K "Machine") "log" := He.noat_ok (T.says.fact 78)
theorem Top.n_Machine_ended (T : Top K mg) : NoAttr K (He.ga K "Machine") "ended" := He.noat_ok (T.says.fact 79)
theorem Top.n_Machine_what (T : Top K mg) : NoAttr K (He.ga K "Machine") "what" := He.noat_ok (T.says.fact 80)
theorem Top.n_Machine_things (T : Top K mg) : NoAttr K (He.ga K "Machine") "things" := He.noat_ok (T.says.fact 81)
theorem Top.n_Waiting_text (T : Top K mg) : NoAttr K (He.ga K "Waiting") "text" := He.noat_ok (T.says.fact 82)
theorem Top.n_Ready_value (T : Top K mg) : NoAttr K (He.ga K "Ready") "value" := He.noat_ok (T.says.fact 83)
theorem Top.n_Ring_names (T : Top K mg) : NoAttr K (He.ga K "Ring") "names" := He.noat_ok (T.says.fact 84)
theorem Top.m_note (T : Top K mg) : Meth K (He.ga K "Machine") "note" (He.ma K (He.ga K "Machine") "note") := He.meth_ok (T.says.fact 85)
theorem Top.m_numbered (T : Top K mg) : Meth K (He.ga K "Machine") "numbered" (He.ma K (He.ga K "Machine") "numbered") := He.meth_ok (T.says.fact 86)
theorem Top.m_born (T : Top K mg) : Meth K (He.ga K "Machine") "born" (He.ma K (He.ga K "Machine") "born") := He.meth_ok (T.says.fact 87)
theorem Top.m_born_all (T : Top K mg) : Meth K (He.ga K "Machine") "born_all" (He.ma K (He.ga K "Machine") "born_all") := He.meth_ok (T.says.fact 88)
theorem Top.m_entered (T : Top K mg) : Meth K (He.ga K "Machine") "entered" (He.ma K (He.ga K "Machine") "entered") := He.meth_ok (T.says.fact 89)
theorem Top.m_back (T : Top K mg) : Meth K (He.ga K "Machine") "back" (He.ma K (He.ga K "Machine") "back") := He.meth_ok (T.says.fact 90)
theorem Top.m_ring (T : Top K mg) : Meth K (He.ga K "Machine") "ring" (He.ma K (He.ga K "Machine") "ring") := He.meth_ok (T.says.fact 91)
theorem Top.m_go (T : Top K mg) : Meth K (He.ga K "Machine") "go" (He.ma K (He.ga K "Machine") "go") := He.meth_ok (T.says.fact 92)
theorem Top.k_Machine (T : Top K mg) : Mk K (He.ga K "Machine") (He.ma K (He.ga K "Machine") "__init__") := He.mkr_ok (T.says.fact 93)
theorem Top.k_Waiting (T : Top K mg) : Mk K (He.ga K "Waiting") (He.ma K (He.ga K "Waiting") "__init__") := He.mkr_ok (T.says.fact 94)
theorem Top.k_Ready (T : Top K mg) : Mk K (He.ga K "Ready") (He.ma K (He.ga K "Ready") "__init__") := He.mkr_ok (T.says.fact 95)
theorem Top.e_Ring (T : Top K mg) : PySem.W.exmOne K (.ref (He.ga K "Ring")) (.ref (He.ga K "Ring")) = some true := He.exm_ok (T.says.fact 96)
theorem Top.f_Ring_init (T : Top K mg) : ∃ fd, FunD K d_Ring_init.name d_Ring_init.qual d_Ring_init.params d_Ring_init.body d_Ring_init.scope (d_Ring_init.dvs K) (d_Ring_init.kws K) (He.fAd K d_Ring_init.at_) fd ∧ Binds K fd ["self", "names"] [] := by
  obtain ⟨fd, F⟩ := T.says.def_ 0 (d := d_Ring_init) rfl
  exact ⟨fd, F, FunD.bindsN (ps := ["self", "names"]) F fun _ _ _ _ _ _ us hl => match us, hl with | [_, _], _ => rfl⟩
theorem Top.f_wants (T : Top K mg) : ∃ fd, FunD K d_wants.name d_wants.qual d_wants.params d_wants.body d_wants.scope (d_wants.dvs K) (d_wants.kws K) (He.fAd K d_wants.at_) fd ∧ Binds K fd ["log"] [] := by
  obtain ⟨fd, F⟩ := T.says.def_ 1 (d := d_wants) rfl
  exact ⟨fd, F, FunD.bindsN (ps := ["log"]) F fun _ _ _ _ _ _ us hl => match us, hl with | [_], _ => rfl⟩
theorem Top.f_idle (T : Top K mg) : ∃ fd, FunD K d_idle.name d_idle.qual d_idle.params d_idle.body d_idle.scope (d_idle.dvs K) (d_idle.kws K) (He.fAd K d_idle.at_) fd ∧ Binds K fd ["log"] [] := by
  obtain ⟨fd, F⟩ := T.says.def_ 2 (d := d_idle) rfl
  exact ⟨fd, F, FunD.bindsN (ps := ["log"]) F fun _ _ _ _ _ _ us hl => match us, hl with | [_], _ => rfl⟩
theorem Top.f_why (T : Top K mg) : ∃ fd, FunD K d_why.name d_why.qual d_why.params d_why.body d_why.scope (d_why.dvs K) (d_why.kws K) (He.fAd K d_why.at_) fd ∧ Binds K fd ["log", "number"] [] := by
  obtain ⟨fd, F⟩ := T.says.def_ 3 (d := d_why) rfl
  exact ⟨fd, F, FunD.bindsN (ps := ["log", "number"]) F fun _ _ _ _ _ _ us hl => match us, hl with | [_, _], _ => rfl⟩
theorem Top.f_Waiting_init (T : Top K mg) : ∃ fd, FunD K d_Waiting_init.name d_Waiting_init.qual d_Waiting_init.params d_Waiting_init.body d_Waiting_init.scope (d_Waiting_init.dvs K) (d_Waiting_init.kws K) (He.fAd K d_Waiting_init.at_) fd ∧ Binds K fd ["self", "text"] [] := by
  obtain ⟨fd, F⟩ := T.says.def_ 4 (d := d_Waiting_init) rfl
  exact ⟨fd, F, FunD.bindsN (ps := ["self", "text"]) F fun _ _ _ _ _ _ us hl => match us, hl with | [_, _], _ => rfl⟩
theorem Top.f_Ready_init (T : Top K mg) : ∃ fd, FunD K d_Ready_init.name d_Ready_init.qual d_Ready_init.params d_Ready_init.body d_Ready_init.scope (d_Ready_init.dvs K) (d_Ready_init.kws K) (He.fAd K d_Ready_init.at_) fd ∧ Binds K fd ["self", "value"] [] := by
  obtain ⟨fd, F⟩ := T.says.def_ 5 (d := d_Ready_init) rfl
  exact ⟨fd, F, FunD.bindsN (ps := ["self", "value"]) F fun _ _ _ _ _ _ us hl => match us, hl with | [_, _], _ => rfl⟩
theorem Top.f_without (T : Top K mg) : ∃ fd, FunD K d_without.name d_without.qual d_without.params d_without.body d_without.scope (d_without.dvs K) (d_without.kws K) (He.fAd K d_without.at_) fd ∧ Binds K fd ["marks", "names"] [] := by
  obtain ⟨fd, F⟩ := T.says.def_ 6 (d := d_without) rfl
  exact ⟨fd, F, FunD.bindsN (ps := ["marks", "names"]) F fun _ _ _ _ _ _ us hl => match us, hl with | [_, _], _ => rfl⟩
theorem Top.f_put_in_choice (T : Top K mg) : ∃ fd, FunD K d_put_in_choice.name d_put_in_choice.qual d_put_in_choice.params d_put_in_choice.body d_put_in_choice.scope (d_put_in_choice.dvs K) (d_put_in_choice.kws K) (He.fAd K d_put_in_choice.at_) fd ∧ Binds K fd ["term", "marks"] [] := by
  obtain ⟨fd, F⟩ := T.says.def_ 7 (d := d_put_in_choice) rfl
  exact ⟨fd, F, FunD.bindsN (ps := ["term", "marks"]) F fun _ _ _ _ _ _ us hl => match us, hl with | [_, _], _ => rfl⟩
theorem Top.f_put_in_let (T : Top K mg) : ∃ fd, FunD K d_put_in_let.name d_put_in_let.qual d_put_in_let.params d_put_in_let.body d_put_in_let.scope (d_put_in_let.dvs K) (d_put_in_let.kws K) (He.fAd K d_put_in_let.at_) fd ∧ Binds K fd ["term", "marks"] [] := by
  obtain ⟨fd, F⟩ := T.says.def_ 8 (d := d_put_in_let) rfl
  exact ⟨fd, F, FunD.bindsN (ps := ["term", "marks"]) F fun _ _ _ _ _ _ us hl => match us, hl with | [_, _], _ => rfl⟩
theorem Top.f_put (T : Top K mg) : ∃ fd, FunD K d_put.name d_put.qual d_put.params d_put.body d_put.scope (d_put.dvs K) (d_put.kws K) (He.fAd K d_put.at_) fd ∧ Binds K fd ["term", "marks"] [] := by
  obtain ⟨fd, F⟩ := T.says.def_ 9 (d := d_put) rfl
  exact ⟨fd, F, FunD.bindsN (ps := ["term", "marks"]) F fun _ _ _ _ _ _ us hl => match us, hl with | [_, _], _ => rfl⟩
theorem Top.f_reckoned (T : Top K mg) : ∃ fd, FunD K d_reckoned.name d_reckoned.qual d_reckoned.params d_reckoned.body d_reckoned.scope (d_reckoned.dvs K) (d_reckoned.kws K) (He.fAd K d_reckoned.at_) fd ∧ Binds K fd ["op", "one", "other"] [] := by
  obtain ⟨fd, F⟩ := T.says.def_ 10 (d := d_reckoned) rfl
  exact ⟨fd, F, FunD.bindsN (ps := ["op", "one", "other"]) F fun _ _ _ _ _ _ us hl => match us, hl with | [_, _, _], _ => rfl⟩
theorem Top.f_picked (T : Top K mg) : ∃ fd, FunD K d_picked.name d_picked.qual d_picked.params d_picked.body d_picked.scope (d_picked.dvs K) (d_picked.kws K) (He.fAd K d_picked.at_) fd ∧ Binds K fd ["value", "alternatives"] [] := by
  obtain ⟨fd, F⟩ := T.says.def_ 11 (d := d_picked) rfl
  exact ⟨fd, F, FunD.bindsN (ps := ["value", "alternatives"]) F fun _ _ _ _ _ _ us hl => match us, hl with | [_, _], _ => rfl⟩
theorem Top.f_Runner_init (T : Top K mg) : ∃ fd, FunD K d_Runner_init.name d_Runner_init.qual d_Runner_init.params d_Runner_init.body d_Runner_init.scope (d_Runner_init.dvs K) (d_Runner_init.kws K) (He.fAd K d_Runner_init.at_) fd ∧ Binds K fd ["self", "term", "depth"] [] := by
  obtain ⟨fd, F⟩ := T.says.def_ 12 (d := d_Runner_init) rfl
  exact ⟨fd, F, FunD.bindsN (ps := ["self", "term", "depth"]) F fun _ _ _ _ _ _ us hl => match us, hl with | [_, _, _], _ => rfl⟩
theorem Top.f_Runner_note (T : Top K mg) : ∃ fd, FunD K d_Runner_note.name d_Runner_note.qual d_Runner_note.params d_Runner_note.body d_Runner_note.scope (d_Runner_note.dvs K) (d_Runner_note.kws K) (He.fAd K d_Runner_note.at_) fd ∧ Binds K fd ["self", "event", "number"] [] := by
  obtain ⟨fd, F⟩ := T.says.def_ 13 (d := d_Runner_note) rfl
  exact ⟨fd, F, FunD.bindsN (ps := ["self", "event", "number"]) F fun _ _ _ _ _ _ us hl => match us, hl with | [_, _, _], _ => rfl⟩
theorem Top.f_Runner_numbered (T : Top K mg) : ∃ fd, FunD K d_Runner_numbered.name d_Runner_numbered.qual d_Runner_numbered.params d_Runner_numbered.body d_Runner_numbered.scope (d_Runner_numbered.dvs K) (d_Runner_numbered.kws K) (He.fAd K d_Runner_numbered.at_) fd ∧ Binds K fd ["self", "label"] [] := by
  obtain ⟨fd, F⟩ := T.says.def_ 14 (d := d_Runner_numbered) rfl
  exact ⟨fd, F, FunD.bindsN (ps := ["self", "label"]) F fun _ _ _ _ _ _ us hl => match us, hl with | [_, _], _ => rfl⟩
theorem Top.f_tell (T : Top K mg) : ∃ fd, FunD K d_tell.name d_tell.qual d_tell.params d_tell.body d_tell.scope (d_tell.dvs K) (d_tell.kws K) (He.fAd K d_tell.at_) fd ∧ Binds K fd ["runner"] [] := by
  obtain ⟨fd, F⟩ := T.says.def_ 15 (d := d_tell) rfl
  exact ⟨fd, F, FunD.bindsN (ps := ["runner"]) F fun _ _ _ _ _ _ us hl => match us, hl with | [_], _ => rfl⟩
theorem Top.f_take_up (T : Top K mg) : ∃ fd, FunD K d_take_up.name d_take_up.qual d_take_up.params d_take_up.body d_take_up.scope (d_take_up.dvs K) (d_take_up.kws K) (He.fAd K d_take_up.at_) fd ∧ Binds K fd ["runner"] [] := by
  obtain ⟨fd, F⟩ := T.says.def_ 16 (d := d_take_up) rfl
  exact ⟨fd, F, FunD.bindsN (ps := ["runner"]) F fun _ _ _ _ _ _ us hl => match us, hl with | [_], _ => rfl⟩
theorem Top.f_fits (T : Top K mg) : ∃ fd, FunD K d_fits.name d_fits.qual d_fits.params d_fits.body d_fits.scope (d_fits.dvs K) (d_fits.kws K) (He.fAd K d_fits.at_) fd ∧ Binds K fd ["frame", "value"] [] := by
  obtain ⟨fd, F⟩ := T.says.def_ 17 (d := d_fits) rfl
  exact ⟨fd, F, FunD.bindsN (ps := ["frame", "value"]) F fun _ _ _ _ _ _ us hl => match us, hl with | [_, _], _ => rfl⟩
theorem Top.f_settled (T : Top K mg) : ∃ fd, FunD K d_settled.name d_settled.qual d_settled.params d_settled.body d_settled.scope (d_settled.dvs K) (d_settled.kws K) (He.fAd K d_settled.at_) fd ∧ Binds K fd ["runner"] [] := by
  obtain ⟨fd, F⟩ := T.says.def_ 18 (d := d_settled) rfl
  exact ⟨fd, F, FunD.bindsN (ps := ["runner"]) F fun _ _ _ _ _ _ us hl => match us, hl with | [_], _ => rfl⟩
theorem Top.f_let_in (T : Top K mg) : ∃ fd, FunD K d_let_in.name d_let_in.qual d_let_in.params d_let_in.body d_let_in.scope (d_let_in.dvs K) (d_let_in.kws K) (He.fAd K d_let_in.at_) fd ∧ Binds K fd ["runner"] [] := by
  obtain ⟨fd, F⟩ := T.says.def_ 19 (d := d_let_in) rfl
  exact ⟨fd, F, FunD.bindsN (ps := ["runner"]) F fun _ _ _ _ _ _ us hl => match us, hl with | [_], _ => rfl⟩
theorem Top.f_shape_made (T : Top K mg) : ∃ fd, FunD K d_shape_made.name d_shape_made.qual d_shape_made.params d_shape_made.body d_shape_made.scope (d_shape_made.dvs K) (d_shape_made.kws K) (He.fAd K d_shape_made.at_) fd ∧ Binds K fd ["runner"] [] := by
  obtain ⟨fd, F⟩ := T.says.def_ 20 (d := d_shape_made) rfl
  exact ⟨fd, F, FunD.bindsN (ps := ["runner"]) F fun _ _ _ _ _ _ us hl => match us, hl with | [_], _ => rfl⟩
theorem Top.f_taken (T : Top K mg) : ∃ fd, FunD K d_taken.name d_taken.qual d_taken.params d_taken.body d_taken.scope (d_taken.dvs K) (d_taken.kws K) (He.fAd K d_taken.at_) fd ∧ Binds K fd ["runner", "term"] [] := by
  obtain ⟨fd, F⟩ := T.says.def_ 21 (d := d_taken) rfl
  exact ⟨fd, F, FunD.bindsN (ps := ["runner", "term"]) F fun _ _ _ _ _ _ us hl => match us, hl with | [_, _], _ => rfl⟩
theorem Top.f_framed (T : Top K mg) : ∃ fd, FunD K d_framed.name d_framed.qual d_framed.params d_framed.body d_framed.scope (d_framed.dvs K) (d_framed.kws K) (He.fAd K d_framed.at_) fd ∧ Binds K fd ["runner", "frame"] [] := by
  obtain ⟨fd, F⟩ := T.says.def_ 22 (d := d_framed) rfl
  exact ⟨fd, F, FunD.bindsN (ps := ["runner", "frame"]) F fun _ _ _ _ _ _ us hl => match us, hl with | [_, _], _ => rfl⟩
theorem Top.f_opened (T : Top K mg) : ∃ fd, FunD K d_opened.name d_opened.qual d_opened.params d_opened.body d_opened.scope (d_opened.dvs K) (d_opened.kws K) (He.fAd K d_opened.at_) fd ∧ Binds K fd ["runner", "frame", "part"] [] := by
  obtain ⟨fd, F⟩ := T.says.def_ 23 (d := d_opened) rfl
  exact ⟨fd, F, FunD.bindsN (ps := ["runner", "frame", "part"]) F fun _ _ _ _ _ _ us hl => match us, hl with | [_, _, _], _ => rfl⟩
theorem Top.f_take_step (T : Top K mg) : ∃ fd, FunD K d_take_step.name d_take_step.qual d_take_step.params d_take_step.body d_take_step.scope (d_take_step.dvs K) (d_take_step.kws K) (He.fAd K d_take_step.at_) fd ∧ Binds K fd ["runner"] [] := by
  obtain ⟨fd, F⟩ := T.says.def_ 24 (d := d_take_step) rfl
  exact ⟨fd, F, FunD.bindsN (ps := ["runner"]) F fun _ _ _ _ _ _ us hl => match us, hl with | [_], _ => rfl⟩
theorem Top.f_run_on (T : Top K mg) : ∃ fd, FunD K d_run_on.name d_run_on.qual d_run_on.params d_run_on.body d_run_on.scope (d_run_on.dvs K) (d_run_on.kws K) (He.fAd K d_run_on.at_) fd ∧ Binds K fd ["runner", "most"] [] := by
  obtain ⟨fd, F⟩ := T.says.def_ 25 (d := d_run_on) rfl
  exact ⟨fd, F, FunD.bindsN (ps := ["runner", "most"]) F fun _ _ _ _ _ _ us hl => match us, hl with | [_, _], _ => rfl⟩
theorem Top.f_outcome (T : Top K mg) : ∃ fd, FunD K d_outcome.name d_outcome.qual d_outcome.params d_outcome.body d_outcome.scope (d_outcome.dvs K) (d_outcome.kws K) (He.fAd K d_outcome.at_) fd ∧ Binds K fd ["runner", "word"] [] := by
  obtain ⟨fd, F⟩ := T.says.def_ 26 (d := d_outcome) rfl
  exact ⟨fd, F, FunD.bindsN (ps := ["runner", "word"]) F fun _ _ _ _ _ _ us hl => match us, hl with | [_, _], _ => rfl⟩
theorem Top.f_Machine_init (T : Top K mg) : ∃ fd, FunD K d_Machine_init.name d_Machine_init.qual d_Machine_init.params d_Machine_init.body d_Machine_init.scope (d_Machine_init.dvs K) (d_Machine_init.kws K) (He.fAd K d_Machine_init.at_) fd ∧ Binds K fd ["self", "term", "depth"] [] := by
  obtain ⟨fd, F⟩ := T.says.def_ 27 (d := d_Machine_init) rfl
  refine ⟨fd, F, ?_⟩
  obtain ⟨ds, h1, h2⟩ := FunD.binds1 (ps := ["self", "term", "depth"]) F 3 1 (by intro q; cases q) rfl (fun _ _ _ _ _ _ _ us its hl hi => match us, hl, its, hi with | [_, _, _], _, [_], _ => ⟨_, rfl, rfl⟩)
  cases h1
  exact h2
theorem Top.f_Machine_born (T : Top K mg) : ∃ fd, FunD K d_Machine_born.name d_Machine_born.qual d_Machine_born.params d_Machine_born.body d_Machine_born.scope (d_Machine_born.dvs K) (d_Machine_born.kws K) (He.fAd K d_Machine_born.at_) fd ∧ Binds K fd ["self", "label", "text"] [] := by
  obtain ⟨fd, F⟩ := T.says.def_ 28 (d := d_Machine_born) rfl
  exact ⟨fd, F, FunD.bindsN (ps := ["self", "label", "text"]) F fun _ _ _ _ _ _ us hl => match us, hl with | [_, _, _], _ => rfl⟩
theorem Top.f_Machine_born_all (T : Top K mg) : ∃ fd, FunD K d_Machine_born_all.name d_Machine_born_all.qual d_Machine_born_all.params d_Machine_born_all.body d_Machine_born_all.scope (d_Machine_born_all.dvs K) (d_Machine_born_all.kws K) (He.fAd K d_Machine_born_all.at_) fd ∧ Binds K fd ["self", "pairs"] [] := by
  obtain ⟨fd, F⟩ := T.says.def_ 29 (d := d_Machine_born_all) rfl
  exact ⟨fd, F, FunD.bindsN (ps := ["self", "pairs"]) F fun _ _ _ _ _ _ us hl => match us, hl with | [_, _], _ => rfl⟩
theorem Top.f_Machine_entered (T : Top K mg) : ∃ fd, FunD K d_Machine_entered.name d_Machine_entered.qual d_Machine_entered.params d_Machine_entered.body d_Machine_entered.scope (d_Machine_entered.dvs K) (d_Machine_entered.kws K) (He.fAd K d_Machine_entered.at_) fd ∧ Binds K fd ["self", "mark"] [] := by
  obtain ⟨fd, F⟩ := T.says.def_ 30 (d := d_Machine_entered) rfl
  exact ⟨fd, F, FunD.bindsN (ps := ["self", "mark"]) F fun _ _ _ _ _ _ us hl => match us, hl with | [_, _], _ => rfl⟩
theorem Top.f_Machine_back (T : Top K mg) : ∃ fd, FunD K d_Machine_back.name d_Machine_back.qual d_Machine_back.params d_Machine_back.body d_Machine_back.scope (d_Machine_back.dvs K) (d_Machine_back.kws K) (He.fAd K d_Machine_back.at_) fd ∧ Binds K fd ["self", "number"] [] := by
  obtain ⟨fd, F⟩ := T.says.def_ 31 (d := d_Machine_back) rfl
  exact ⟨fd, F, FunD.bindsN (ps := ["self", "number"]) F fun _ _ _ _ _ _ us hl => match us, hl with | [_, _], _ => rfl⟩
theorem Top.f_Machine_ring (T : Top K mg) : ∃ fd, FunD K d_Machine_ring.name d_Machine_ring.qual d_Machine_ring.params d_Machine_ring.body d_Machine_ring.scope (d_Machine_ring.dvs K) (d_Machine_ring.kws K) (He.fAd K d_Machine_ring.at_) fd ∧ Binds K fd ["self", "number"] [] := by
  obtain ⟨fd, F⟩ := T.says.def_ 32 (d := d_Machine_ring) rfl
  exact ⟨fd, F, FunD.bindsN (ps := ["self", "number"]) F fun _ _ _ _ _ _ us hl => match us, hl with | [_, _], _ => rfl⟩
theorem Top.f_Machine_go (T : Top K mg) : ∃ fd, FunD K d_Machine_go.name d_Machine_go.qual d_Machine_go.params d_Machine_go.body d_Machine_go.scope (d_Machine_go.dvs K) (d_Machine_go.kws K) (He.fAd K d_Machine_go.at_) fd ∧ Binds K fd ["self", "most"] [] := by
  obtain ⟨fd, F⟩ := T.says.def_ 33 (d := d_Machine_go) rfl
  exact ⟨fd, F, FunD.bindsN (ps := ["self", "most"]) F fun _ _ _ _ _ _ us hl => match us, hl with | [_, _], _ => rfl⟩
theorem Top.f_run (T : Top K mg) : ∃ fd, FunD K d_run.name d_run.qual d_run.params d_run.body d_run.scope (d_run.dvs K) (d_run.kws K) (He.fAd K d_run.at_) fd ∧ Binds K fd ["term", "depth", "most"] [] := by
  obtain ⟨fd, F⟩ := T.says.def_ 34 (d := d_run) rfl
  refine ⟨fd, F, ?_⟩
  obtain ⟨ds, h1, h2⟩ := FunD.binds1 (ps := ["term", "depth", "most"]) F 3 2 (by intro q; cases q) rfl (fun _ _ _ _ _ _ _ us its hl hi => match us, hl, its, hi with | [_, _, _], _, [_, _], _ => ⟨_, rfl, rfl⟩)
  cases h1
  exact h2
theorem Top.f_L_mix (T : Top K mg) : ∃ fd, FunD K d_L_mix.name d_L_mix.qual d_L_mix.params d_L_mix.body d_L_mix.scope (d_L_mix.dvs K) (d_L_mix.kws K) (He.fAd K d_L_mix.at_) fd ∧ Binds K fd ["_law_cell", "_law_k"] [] := by
  obtain ⟨fd, F⟩ := T.says.def_ 35 (d := d_L_mix) rfl
  exact ⟨fd, F, FunD.bindsN (ps := ["_law_cell", "_law_k"]) F fun _ _ _ _ _ _ us hl => match us, hl with | [_, _], _ => rfl⟩
theorem Top.f_L_expr (T : Top K mg) : ∃ fd, FunD K d_L_expr.name d_L_expr.qual d_L_expr.params d_L_expr.body d_L_expr.scope (d_L_expr.dvs K) (d_L_expr.kws K) (He.fAd K d_L_expr.at_) fd ∧ Binds K fd ["_law_pool", "_law_cell"] [] := by
  obtain ⟨fd, F⟩ := T.says.def_ 36 (d := d_L_expr) rfl
  exact ⟨fd, F, FunD.bindsN (ps := ["_law_pool", "_law_cell"]) F fun _ _ _ _ _ _ us hl => match us, hl with | [_, _], _ => rfl⟩
theorem Top.f_L_list (T : Top K mg) : ∃ fd, FunD K d_L_list.name d_L_list.qual d_L_list.params d_L_list.body d_L_list.scope (d_L_list.dvs K) (d_L_list.kws K) (He.fAd K d_L_list.at_) fd ∧ Binds K fd ["_law_pool", "_law_ends", "_law_cell", "_law_more"] [] := by
  obtain ⟨fd, F⟩ := T.says.def_ 37 (d := d_L_list) rfl
  exact ⟨fd, F, FunD.bindsN (ps := ["_law_pool", "_law_ends", "_law_cell", "_law_more"]) F fun _ _ _ _ _ _ us hl => match us, hl with | [_, _, _, _], _ => rfl⟩
theorem Top.f_L_bindings (T : Top K mg) : ∃ fd, FunD K d_L_bindings.name d_L_bindings.qual d_L_bindings.params d_L_bindings.body d_L_bindings.scope (d_L_bindings.dvs K) (d_L_bindings.kws K) (He.fAd K d_L_bindings.at_) fd ∧ Binds K fd ["_law_cells_here", "_law_letter", "_law_outer", "_law_ends"] [] := by
  obtain ⟨fd, F⟩ := T.says.def_ 38 (d := d_L_bindings) rfl
  exact ⟨fd, F, FunD.bindsN (ps := ["_law_cells_here", "_law_letter", "_law_outer", "_law_ends"]) F fun _ _ _ _ _ _ us hl => match us, hl with | [_, _, _, _], _ => rfl⟩
theorem Top.f_L_graph (T : Top K mg) : ∃ fd, FunD K d_L_graph.name d_L_graph.qual d_L_graph.params d_L_graph.body d_L_graph.scope (d_L_graph.dvs K) (d_L_graph.kws K) (He.fAd K d_L_graph.at_) fd ∧ Binds K fd ["_law_cells_here"] [] := by
  obtain ⟨fd, F⟩ := T.says.def_ 39 (d := d_L_graph) rfl
  exact ⟨fd, F, FunD.bindsN (ps := ["_law_cells_here"]) F fun _ _ _ _ _ _ us hl => match us, hl with | [_], _ => rfl⟩
theorem Top.f_L_cells (T : Top K mg) : ∃ fd, FunD K d_L_cells.name d_L_cells.qual d_L_cells.params d_L_cells.body d_L_cells.scope (d_L_cells.dvs K) (d_L_cells.kws K) (He.fAd K d_L_cells.at_) fd ∧ Binds K fd ["_law_script", "_law_at", "_law_many"] [] := by
  obtain ⟨fd, F⟩ := T.says.def_ 40 (d := d_L_cells) rfl
  exact ⟨fd, F, FunD.bindsN (ps := ["_law_script", "_law_at", "_law_many"]) F fun _ _ _ _ _ _ us hl => match us, hl with | [_, _, _], _ => rfl⟩
theorem Top.f_L_deal (T : Top K mg) : ∃ fd, FunD K d_L_deal.name d_L_deal.qual d_L_deal.params d_L_deal.body d_L_deal.scope (d_L_deal.dvs K) (d_L_deal.kws K) (He.fAd K d_L_deal.at_) fd ∧ Binds K fd ["_law_cells_here", "_law_mixed"] [] := by
  obtain ⟨fd, F⟩ := T.says.def_ 41 (d := d_L_deal) rfl
  exact ⟨fd, F, FunD.bindsN (ps := ["_law_cells_here", "_law_mixed"]) F fun _ _ _ _ _ _ us hl => match us, hl with | [_, _], _ => rfl⟩
theorem Top.f_L_draw (T : Top K mg) : ∃ fd, FunD K d_L_draw.name d_L_draw.qual d_L_draw.params d_L_draw.body d_L_draw.scope (d_L_draw.dvs K) (d_L_draw.kws K) (He.fAd K d_L_draw.at_) fd ∧ Binds K fd ["_law_deal_here", "_law_many"] [] := by
  obtain ⟨fd, F⟩ := T.says.def_ 42 (d := d_L_draw) rfl
  exact ⟨fd, F, FunD.bindsN (ps := ["_law_deal_here", "_law_many"]) F fun _ _ _ _ _ _ us hl => match us, hl with | [_, _], _ => rfl⟩
theorem Top.f_L_name (T : Top K mg) : ∃ fd, FunD K d_L_name.name d_L_name.qual d_L_name.params d_L_name.body d_L_name.scope (d_L_name.dvs K) (d_L_name.kws K) (He.fAd K d_L_name.at_) fd ∧ Binds K fd ["_law_deal_here"] [] := by
  obtain ⟨fd, F⟩ := T.says.def_ 43 (d := d_L_name) rfl
  exact ⟨fd, F, FunD.bindsN (ps := ["_law_deal_here"]) F fun _ _ _ _ _ _ us hl => match us, hl with | [_], _ => rfl⟩
theorem Top.f_L_kind (T : Top K mg) : ∃ fd, FunD K d_L_kind.name d_L_kind.qual d_L_kind.params d_L_kind.body d_L_kind.scope (d_L_kind.dvs K) (d_L_kind.kws K) (He.fAd K d_L_kind.at_) fd ∧ Binds K fd ["_law_deal_here", "_law_fuel"] [] := by
  obtain ⟨fd, F⟩ := T.says.def_ 44 (d := d_L_kind) rfl
  exact ⟨fd, F, FunD.bindsN (ps := ["_law_deal_here", "_law_fuel"]) F fun _ _ _ _ _ _ us hl => match us, hl with | [_, _], _ => rfl⟩
theorem Top.f_L_leaf (T : Top K mg) : ∃ fd, FunD K d_L_leaf.name d_L_leaf.qual d_L_leaf.params d_L_leaf.body d_L_leaf.scope (d_L_leaf.dvs K) (d_L_leaf.kws K) (He.fAd K d_L_leaf.at_) fd ∧ Binds K fd ["_law_deal_here", "_law_want", "_law_names"] [] := by
  obtain ⟨fd, F⟩ := T.says.def_ 45 (d := d_L_leaf) rfl
  exact ⟨fd, F, FunD.bindsN (ps := ["_law_deal_here", "_law_want", "_law_names"]) F fun _ _ _ _ _ _ us hl => match us, hl with | [_, _, _], _ => rfl⟩
theorem Top.f_L_own (T : Top K mg) : ∃ fd, FunD K d_L_own.name d_L_own.qual d_L_own.params d_L_own.body d_L_own.scope (d_L_own.dvs K) (d_L_own.kws K) (He.fAd K d_L_own.at_) fd ∧ Binds K fd ["_law_deal_here", "_law_want", "_law_names", "_law_fuel"] [] := by
  obtain ⟨fd, F⟩ := T.says.def_ 46 (d := d_L_own) rfl
  exact ⟨fd, F, FunD.bindsN (ps := ["_law_deal_here", "_law_want", "_law_names", "_law_fuel"]) F fun _ _ _ _ _ _ us hl => match us, hl with | [_, _, _, _], _ => rfl⟩
theorem Top.f_L_let (T : Top K mg) : ∃ fd, FunD K d_L_let.name d_L_let.qual d_L_let.params d_L_let.body d_L_let.scope (d_L_let.dvs K) (d_L_let.kws K) (He.fAd K d_L_let.at_) fd ∧ Binds K fd ["_law_deal_here", "_law_want", "_law_names", "_law_fuel"] [] := by
  obtain ⟨fd, F⟩ := T.says.def_ 47 (d := d_L_let) rfl
  exact ⟨fd, F, FunD.bindsN (ps := ["_law_deal_here", "_law_want", "_law_names", "_law_fuel"]) F fun _ _ _ _ _ _ us hl => match us, hl with | [_, _, _, _], _ => rfl⟩
theorem Top.f_L_choose (T : Top K mg) : ∃ fd, FunD K d_L_choose.name d_L_choose.qual d_L_choose.params d_L_choose.body d_L_choose.scope (d_L_choose.dvs K) (d_L_choose.kws K) (He.fAd K d_L_choose.at_) fd ∧ Binds K fd ["_law_deal_here", "_law_way", "_law_want", "_law_names", "_law_fuel"] [] := by
  obtain ⟨fd, F⟩ := T.says.def_ 48 (d := d_L_choose) rfl
  exact ⟨fd, F, FunD.bindsN (ps := ["_law_deal_here", "_law_way", "_law_want", "_law_names", "_law_fuel"]) F fun _ _ _ _ _ _ us hl => match us, hl with | [_, _, _, _, _], _ => rfl⟩
theorem Top.f_L_term (T : Top K mg) : ∃ fd, FunD K d_L_term.name d_L_term.qual d_L_term.params d_L_term.body d_L_term.scope (d_L_term.dvs K) (d_L_term.kws K) (He.fAd K d_L_term.at_) fd ∧ Binds K fd ["_law_deal_here", "_law_want", "_law_names", "_law_fuel"] [] := by
  obtain ⟨fd, F⟩ := T.says.def_ 49 (d := d_L_term) rfl
  exact ⟨fd, F, FunD.bindsN (ps := ["_law_deal_here", "_law_want", "_law_names", "_law_fuel"]) F fun _ _ _ _ _ _ us hl => match us, hl with | [_, _, _, _], _ => rfl⟩
theorem Top.f_L_births (T : Top K mg) : ∃ fd, FunD K d_L_births.name d_L_births.qual d_L_births.params d_L_births.body d_L_births.scope (d_L_births.dvs K) (d_L_births.kws K) (He.fAd K d_L_births.at_) fd ∧ Binds K fd ["_law_log"] [] := by
  obtain ⟨fd, F⟩ := T.says.def_ 50 (d := d_L_births) rfl
  exact ⟨fd, F, FunD.bindsN (ps := ["_law_log"]) F fun _ _ _ _ _ _ us hl => match us, hl with | [_], _ => rfl⟩
theorem Top.f_L_all_there (T : Top K mg) : ∃ fd, FunD K d_L_all_there.name d_L_all_there.qual d_L_all_there.params d_L_all_there.body d_L_all_there.scope (d_L_all_there.dvs K) (d_L_all_there.kws K) (He.fAd K d_L_all_there.at_) fd ∧ Binds K fd ["_law_log"] [] := by
  obtain ⟨fd, F⟩ := T.says.def_ 51 (d := d_L_all_there) rfl
  exact ⟨fd, F, FunD.bindsN (ps := ["_law_log"]) F fun _ _ _ _ _ _ us hl => match us, hl with | [_], _ => rfl⟩
theorem Top.f_L_within (T : Top K mg) : ∃ fd, FunD K d_L_within.name d_L_within.qual d_L_within.params d_L_within.body d_L_within.scope (d_L_within.dvs K) (d_L_within.kws K) (He.fAd K d_L_within.at_) fd ∧ Binds K fd ["_law_row", "_law_rows"] [] := by
  obtain ⟨fd, F⟩ := T.says.def_ 52 (d := d_L_within) rfl
  exact ⟨fd, F, FunD.bindsN (ps := ["_law_row", "_law_rows"]) F fun _ _ _ _ _ _ us hl => match us, hl with | [_, _], _ => rfl⟩
theorem Top.f_L_spans (T : Top K mg) : ∃ fd, FunD K d_L_spans.name d_L_spans.qual d_L_spans.params d_L_spans.body d_L_spans.scope (d_L_spans.dvs K) (d_L_spans.kws K) (He.fAd K d_L_spans.at_) fd ∧ Binds K fd ["_law_log"] [] := by
  obtain ⟨fd, F⟩ := T.says.def_ 53 (d := d_L_spans) rfl
  exact ⟨fd, F, FunD.bindsN (ps := ["_law_log"]) F fun _ _ _ _ _ _ us hl => match us, hl with | [_], _ => rfl⟩
theorem Top.f_L_open (T : Top K mg) : ∃ fd, FunD K d_L_open.name d_L_open.qual d_L_open.params d_L_open.body d_L_open.scope (d_L_open.dvs K) (d_L_open.kws K) (He.fAd K d_L_open.at_) fd ∧ Binds K fd ["_law_rows", "_law_word", "_law_what"] [] := by
  obtain ⟨fd, F⟩ := T.says.def_ 54 (d := d_L_open) rfl
  exact ⟨fd, F, FunD.bindsN (ps := ["_law_rows", "_law_word", "_law_what"]) F fun _ _ _ _ _ _ us hl => match us, hl with | [_, _, _], _ => rfl⟩
theorem Top.f_law (T : Top K mg) : ∃ fd, FunD K d_law.name d_law.qual d_law.params d_law.body d_law.scope (d_law.dvs K) (d_law.kws K) (He.fAd K d_law.at_) fd ∧ Binds K fd ["_law_script"] [] := by
  obtain ⟨fd, F⟩ := T.says.def_ 55 (d := d_law) rfl
  exact ⟨fd, F, FunD.bindsN (ps := ["_law_script"]) F fun _ _ _ _ _ _ us hl => match us, hl with | [_], _ => rfl⟩
end
theorem obs_of {K : PySem.W.Frag} {h : Heap} {mg : Str → Option Value} (X : K.In h) (G : h.Ns mainGlobals mg) (c : He.SaysD fas fns K) (e : exB K = true) : Top K mg := ⟨⟨h, X, G⟩, c, exB_ok e⟩
/-- a def keeps its promise, its parameters are bound in order, its object stays -/
structure GO (P : Program) (w : World) (K : PySem.W.Frag) (mg : Str → Option Value) (base : Heap) (CX : CXT) (k : Nat) (d : He.DefD) (ps : List Str) (sp : Sp) (fd : FuncData) : Prop where
  ok : FnOk P w K mg base CX k (He.fAd K d.at_) fd ps sp
  bd : Binds K fd ps []
  kp : PySem.W.keepIn K (.ref (He.fAd K d.at_)) = true
def Keeps (P : Program) (w : World) (K : PySem.W.Frag) (mg : Str → Option Value) (base : Heap) (CX : CXT) (k : Nat) (d : He.DefD) (ps : List Str) (sp : Sp) : Prop := ∃ fd, GO P w K mg base CX k d ps sp fd
theorem keeps0 {P : Program} {w : World} {K : PySem.W.Frag} {mg : Str → Option Value} {base : Heap} {k : Nat} {d : He.DefD} {N ps : List Str} {sp : Sp} {fd : FuncData} (F : FunD K d.name d.qual d.params d.body d.scope (d.dvs K) (d.kws K) (He.fAd K d.at_) fd)
    (bd : Binds K fd ps []) (S : FnScope N ps d.scope) (len : ∀ vs H Q E, sp vs H Q E → vs.length = ps.length)
    (hbody : ∀ (cdv : Value) (A : Around) (outer : List Env) (s : Shared) (H : Hp) (vs : List V) (Q : VK) (E : XK), Room k (A.deeper (envOfC d.qual d.scope s.heap.objs.size (He.fAd K d.at_) cdv)) → sp vs H Q E →
      ∃ t, PSs (cxOf CX0 P w K mg base N d.qual d.scope (He.fAd K d.at_) cdv A outer s H E).nox d.body t ∧ t { nx := fun _ H' => Q .non H', rt := Q } (start N vs) H) : Keeps P w K mg base CX0 (k + 1) d ps sp :=
  ⟨fd, FunD.ok F S len fun cdv A outer s H vs Q E hr h => by
    obtain ⟨t, h1, h2⟩ := hbody cdv A outer s H vs Q E hr h
    exact ⟨t, h1.nox, h2⟩, bd, F.kp⟩
theorem keepsX {P : Program} {w : World} {K : PySem.W.Frag} {mg : Str → Option Value} {base : Heap} {CX : CXT} {k : Nat} {d : He.DefD} {N ps : List Str} {sp : Sp} {fd : FuncData} (F : FunD K d.name d.qual d.params d.body d.scope (d.dvs K) (d.kws K) (He.fAd K d.at_) fd)
    (bd : Binds K fd ps []) (S : FnScope N ps d.scope) (len : ∀ vs H Q E, sp vs H Q E → vs.length = ps.length)
    (hbody : ∀ (cdv : Value) (A : Around) (outer : List Env) (s : Shared) (H : Hp) (vs : List V) (Q : VK) (E : XK), Room k (A.deeper (envOfC d.qual d.scope s.heap.objs.size (He.fAd K d.at_) cdv)) → sp vs H Q E →
      ∃ t, PSs (cxOf CX P w K mg base N d.qual d.scope (He.fAd K d.at_) cdv A outer s H E) d.body t ∧ t { nx := fun _ H' => Q .non H', rt := Q } (start N vs) H) : Keeps P w K mg base CX (k + 1) d ps sp :=
  ⟨fd, FunD.ok F S len hbody, bd, F.kp⟩
theorem Keeps.mono {P : Program} {w : World} {K : PySem.W.Frag} {mg : Str → Option Value} {base : Heap} {CX : CXT} {j k : Nat} {d : He.DefD} {ps : List Str} {sp : Sp} (h : Keeps P w K mg base CX j d ps sp) (l : j ≤ k) : Keeps P w K mg base CX k d ps sp := by
  obtain ⟨fd, G⟩ := h
  exact ⟨fd, G.ok.mono l, G.bd, G.kp⟩
end W83

namespace W83
open PySem PySem.Spec PyProof.Rows L2
/-! the top's run -/
abbrev RR : PySem.W.OpenRow := PySem.W.OpenLaw.row PySem.Challenge.rw_idlegraph_k83_whole_spans
abbrev AlE : Type := He.AlD × Bool
def frE (g : Addr → Option Obj) : PySem.W.Frag := He.frG g (He.asD g 5 ++ [cStatics])
def obsE (g : Addr → Option Obj) : AlE := (He.obsD fas fns (frE g), exB (frE g))
def hkE : PySem.W.Hook where
  α := AlE
  obs := fun s => obsE s.heap.get?
  val := fun _ => (He.valD fns, true)
  says := fun _ h => ∃ K : PySem.W.Frag, K.In h ∧ He.SaysD fas fns K ∧ exB K = true
  of := fun _ _ e => ⟨_, He.frG_in, (Prod.mk.inj e).1, (Prod.mk.inj e).2⟩
  keeps := fun _ _ _ ⟨K, hK, c⟩ k => ⟨K, PySem.W.Frag.In.keeps hK k, c⟩
def obE (s : PySem.W.SharedT) : AlE := obsE (HandSHeadRun.getT s)
theorem obE_eq (s : PySem.W.SharedT) : obE s = hkE.obs s.abs := by
  have e : HandSHeadRun.getT s = s.abs.heap.get? := funext (HandSHeadRun.getT_eq s)
  show obsE (HandSHeadRun.getT s) = obsE s.abs.heap.get?
  rw [e]
theorem runE (w : World) : HandSHeadRun.RunEq RR (PySem.W.view RR.prog [64]) hkE obE 6000 loo w := by
  intro os
  kernel_rfl
end W83

namespace W83
open PySem PySem.Spec PyProof.Rows L2
/-! ### heaps: what stays -/
def TupK (H H' : Hp) : Prop := ∀ b xs, H b = some (.tup xs) → H' b = some (.tup xs)
theorem TupK.refl (H : Hp) : TupK H H := fun _ _ h => h
theorem TupK.trans {H H1 H2 : Hp} (a : TupK H H1) (b : TupK H1 H2) : TupK H H2 := fun c xs h => b c xs (a c xs h)
theorem sameTupK {H H' : Hp} (s : Same H H') : TupK H H' := fun b xs h => s b _ h
theorem tupK_new {H : Hp} {a : Addr} {o : HO} (h : H a = none) : TupK H (upd H a o) := fun b xs e => by rw [upd_ne (ne_of_none e h)]; exact e
theorem same_new {H : Hp} {a : Addr} {o : HO} (h : H a = none) : Same H (upd H a o) := fun b u e => by rw [upd_ne (ne_of_none e h)]; exact e
theorem tupK_upd {H : Hp} {a : Addr} {o u : HO} (h : H a = some u) (hu : ∀ xs, u ≠ .tup xs) : TupK H (upd H a o) := fun b xs e => by
  rw [upd_ne]
  · exact e
  · rintro rfl
    rw [h] at e
    exact hu xs (Option.some.inj e)
theorem sameT {K : PySem.W.Frag} {H H' : Hp} {a : Addr} {xs : List V} (e : Same H H') (h : SqT K H a xs) : SqT K H' a xs := by
  rcases h with (h | ⟨o, h⟩) | h
  · exact .inl (.inl (e _ _ h))
  · exact .inl (.inr ⟨o, e _ _ h⟩)
  · exact .inr h
theorem ifT {c : Bool} {A B : Prop} (hc : c = true) (h : A) : if c = true then A else B := by
  rw [if_pos hc]
  exact h
theorem ifF {c : Bool} {A B : Prop} (hc : c = false) (h : B) : if c = true then A else B := by
  rw [hc, if_neg Bool.false_ne_true]
  exact h
theorem ifB {c : Bool} {A B : Prop} (h1 : c = true → A) (h2 : c = false → B) : if c = true then A else B := by
  cases c with
  | true => exact iteT (h1 rfl)
  | false => exact iteF (h2 rfl)
theorem small50 {n : Nat} (h : n ≤ 1000) : n ≤ sizeLine := Nat.le_of_lt (small1000 h)
theorem sz {xs : List V} {n : Nat} (h : xs.length = n) (hn : n ≤ 1000) : xs.length ≤ sizeLine := by
  rw [h]
  exact small50 hn
/-! ### terms as they lie in the heap; M: the things whose marks may stand in them -/
abbrev big : Int := 1000000000000000000
def Mrk (M : Nat → Prop) (H : Hp) (v : V) : Prop := ∃ a k, v = .ref a ∧ M k ∧ H a = some (.tup [.str "at", .int ((k : Nat) : Int)])
def Prr (H : Hp) (R : V → Prop) (v : V) : Prop := ∃ b x e, v = .ref b ∧ H b = some (.tup [.str x, e]) ∧ R e
def Alt (H : Hp) (R : V → Prop) (c : Str) (v : V) : Prop := ∃ b n e, ∃ xs : List Str, v = .ref b ∧ H b = some (.tup [.str c, .ref n, e]) ∧ H n = some (.tup (xs.map V.str)) ∧ R e
inductive TmS (M : Nat → Prop) (H : Hp) (R : V → Prop) : List V → Prop
  | at_ (k : Nat) (hk : M k) : TmS M H R [.str "at", .int ((k : Nat) : Int)]
  | name (x : Str) : TmS M H R [.str "name", .str x]
  | number (i : Int) (h0 : 0 ≤ i) (h1 : i < big) : TmS M H R [.str "number", .int i]
  | does (op : Str) (a b : V) (ha : R a) (hb : R b) : TmS M H R [.str "does", .str op, a, b]
  | fun_ (x : Str) (b : V) (hb : R b) : TmS M H R [.str "fun", .str x, b]
  | call (f a : V) (hf : R f) (ha : R a) : TmS M H R [.str "call", f, a]
  | let_ (p : Addr) (prs : List V) (b : V) (hp : H p = some (.tup prs)) (hl : prs.length ≤ 6) (he : ∀ v ∈ prs, Prr H R v) (hb : R b) : TmS M H R [.str "let", .ref p, b]
  | shape (c : Str) (p : Addr) (ps : List V) (hp : H p = some (.tup ps)) (hl : ps.length ≤ 2) (he : ∀ v ∈ ps, R v) (hc : c.length ≤ 10) : TmS M H R [.str "shape", .str c, .ref p]
  | choose (e : V) (p : Addr) (as : List V) (he : R e) (hp : H p = some (.tup as)) (hl : as.length ≤ 6) (ha : ∀ v ∈ as, ∃ c, Alt H R c v) : TmS M H R [.str "choose", e, .ref p]
  | first (a b : V) (ha : R a) (hb : R b) : TmS M H R [.str "first", a, b]
  | stop (x : Str) : TmS M H R [.str "stop", .str x]
def Tm (M : Nat → Prop) (H : Hp) : Nat → V → Prop
  | 0, _ => False
  | d + 1, v => ∃ a xs, v = .ref a ∧ H a = some (.tup xs) ∧ TmS M H (Tm M H d) xs
theorem Mrk.mono {M M' : Nat → Prop} {H H' : Hp} {v : V} (hM : ∀ k, M k → M' k) (hH : TupK H H') (h : Mrk M H v) : Mrk M' H' v := by
  obtain ⟨a, k, e, hk, ha⟩ := h
  exact ⟨a, k, e, hM k hk, hH _ _ ha⟩
theorem TmS.mono {M M' : Nat → Prop} {H H' : Hp} {R R' : V → Prop} {xs : List V} (hM : ∀ k, M k → M' k) (hH : TupK H H') (hR : ∀ v, R v → R' v) (h : TmS M H R xs) : TmS M' H' R' xs := by
  cases h with
  | at_ k hk => exact .at_ k (hM k hk)
  | name x => exact .name x
  | number i h0 h1 => exact .number i h0 h1
  | does op a b ha hb => exact .does op a b (hR _ ha) (hR _ hb)
  | fun_ x b hb => exact .fun_ x b (hR _ hb)
  | call f a hf ha => exact .call f a (hR _ hf) (hR _ ha)
  | let_ p prs b hp hl he hb =>
    refine .let_ p prs b (hH _ _ hp) hl (fun v hv => ?_) (hR _ hb)
    obtain ⟨c, x, e, h1, h2, h3⟩ := he v hv
    exact ⟨c, x, e, h1, hH _ _ h2, hR _ h3⟩
  | shape c p ps hp hl he hc => exact .shape c p ps (hH _ _ hp) hl (fun v hv => hR _ (he v hv)) hc
  | choose e p as he hp hl ha =>
    refine .choose e p as (hR _ he) (hH _ _ hp) hl fun v hv => ?_
    obtain ⟨c, b, n, f, xs, h1, h2, h3, h4⟩ := ha v hv
    exact ⟨c, b, n, f, xs, h1, hH _ _ h2, hH _ _ h3, hR _ h4⟩
  | first a b ha hb => exact .first a b (hR _ ha) (hR _ hb)
  | stop x => exact .stop x
theorem Tm.mono {M M' : Nat → Prop} {H H' : Hp} (hM : ∀ k, M k → M' k) (hH : TupK H H') : ∀ {d d' : Nat} {v : V}, d ≤ d' → Tm M H d v → Tm M' H' d' v
  | 0, _, _, _, h => False.elim h
  | d + 1, 0, _, l, _ => by omega
  | d + 1, d' + 1, v, l, h => by
    obtain ⟨a, xs, e, ha, hs⟩ := h
    exact ⟨a, xs, e, hH _ _ ha, hs.mono hM hH fun v hv => Tm.mono hM hH (by omega) hv⟩
theorem Tm.keep {M : Nat → Prop} {H H' : Hp} {d : Nat} {v : V} (h : Tm M H d v) (hH : TupK H H') : Tm M H' d v := h.mono (fun _ z => z) hH (Nat.le_refl _)
theorem Tm.up {M : Nat → Prop} {H : Hp} {d d' : Nat} {v : V} (h : Tm M H d v) (l : d ≤ d') : Tm M H d' v := h.mono (fun _ z => z) (TupK.refl _) l
theorem Mrk.tm {M : Nat → Prop} {H : Hp} {v : V} (h : Mrk M H v) (d : Nat) : Tm M H (d + 1) v := by
  obtain ⟨a, k, e, hk, ha⟩ := h
  exact ⟨a, _, e, ha, .at_ k hk⟩
/-- a made shape -/
def Made (M : Nat → Prop) (H : Hp) (v : V) : Prop := ∃ a c p ms, v = .ref a ∧ H a = some (.tup [.str "made", .str c, .ref p]) ∧ H p = some (.tup ms) ∧ ms.length ≤ 2 ∧ (∀ m ∈ ms, Mrk M H m) ∧ c.length ≤ 10
theorem Made.mono {M M' : Nat → Prop} {H H' : Hp} {v : V} (hM : ∀ k, M k → M' k) (hH : TupK H H') (h : Made M H v) : Made M' H' v := by
  obtain ⟨a, c, p, ms, e, h1, h2, h3, h4, h5⟩ := h
  exact ⟨a, c, p, ms, e, hH _ _ h1, hH _ _ h2, h3, fun m hm => (h4 m hm).mono hM hH, h5⟩
/-- a dict from names to marks -/
def MarksD (M : Nat → Prop) (H : Hp) (d : Addr) (kvs : List (Key × V)) : Prop := H d = some (.dK kvs) ∧ kvs.length ≤ 100 ∧ ∀ p ∈ kvs, Mrk M H p.2
theorem MarksD.same {M : Nat → Prop} {H H' : Hp} {d : Addr} {kvs : List (Key × V)} (h : MarksD M H d kvs) (s : Same H H') : MarksD M H' d kvs :=
  ⟨s _ _ h.1, h.2.1, fun p hp => (h.2.2 p hp).mono (fun _ z => z) (sameTupK s)⟩
theorem valV_mem {κ : Type} [DecidableEq κ] {kvs : List (κ × V)} {k : κ} {v : V} (h : valV kvs k = some v) : ∃ p ∈ kvs, p.2 = v ∧ p.1 = k := by
  unfold valV at h
  cases e : kvs.find? (fun kv => decide (kv.1 = k)) with
  | none => rw [e] at h; cases h
  | some p =>
    rw [e] at h
    have q := List.find?_some e
    exact ⟨p, List.mem_of_find?_eq_some e, Option.some.inj h, of_decide_eq_true q⟩
theorem putK_mem {κ : Type} [DecidableEq κ] {kvs : List (κ × V)} {k : κ} {v : V} {p : κ × V} (h : p ∈ putK kvs k v) : p ∈ kvs ∨ (p.1 = k ∧ p.2 = v) := by
  unfold putK at h
  split at h
  · obtain ⟨q, hq, e⟩ := List.mem_map.mp h
    by_cases c : q.1 = k
    · rw [if_pos c] at e
      subst e
      exact .inr ⟨c, rfl⟩
    · rw [if_neg c] at e
      subst e
      exact .inl hq
  · rcases List.mem_append.mp h with c | c
    · exact .inl c
    · rw [List.mem_singleton.mp c]
      exact .inr ⟨rfl, rfl⟩
theorem putK_len {κ : Type} [DecidableEq κ] (kvs : List (κ × V)) (k : κ) (v : V) : (putK kvs k v).length ≤ kvs.length + 1 := by
  unfold putK
  split
  · rw [List.length_map]; omega
  · rw [List.length_append]; simp
theorem mergeK_mem : ∀ {more kvs : List (Key × V)} {p : Key × V}, p ∈ mergeK kvs more → p ∈ kvs ∨ ∃ q ∈ more, q.2 = p.2 ∧ q.1 = p.1
  | [], kvs, p, h => .inl h
  | q :: r, kvs, p, h => by
    rcases mergeK_mem (more := r) (kvs := putK kvs q.1 q.2) h with c | ⟨z, hz, e⟩
    · rcases putK_mem c with c | ⟨c1, c2⟩
      · exact .inl c
      · exact .inr ⟨q, List.mem_cons_self, c2.symm, c1.symm⟩
    · exact .inr ⟨z, List.mem_cons_of_mem _ hz, e⟩
theorem all_strs : ∀ (xs : List Str), (xs.map V.str).all flatV = true
  | [] => rfl
  | x :: xs => all_strs xs
theorem at_get {xs : List V} {i : Nat} {v : V} (h : xs[i]? = some v) : atI xs ((i : Nat) : Int) = some v := atI_nat h
theorem notFrz {H : Hp} {d : Addr} {kvs : List (Key × V)} (h : H d = some (.dK kvs)) : ∀ xs, H d ≠ some (.tup xs) := fun xs e => by rw [h] at e; cases e
/-- behind a lock -/
theorem unlocked {H H' : Hp} {d : Addr} {u : HO} (h : H d = some u) (k : ∀ b o, H b = some o → b ≠ d → H' b = some o) : Same H (upd H' d u) := fun b o e => by
  by_cases c : b = d
  · subst c
    rw [h] at e
    rw [upd_same]
    exact e
  · rw [upd_ne c]
    exact k b o e c
end W83

namespace W83
open PySem PySem.Spec PyProof.Rows L2
abbrev N_without : List Str := ["marks", "names", "found", "name", "mark"]
abbrev P_without : List Str := ["marks", "names"]
theorem sc_without : FnScope N_without P_without d_without.scope := ⟨rfl, rfl, rfl, by decide +kernel, rfl, by decide +kernel, by decide +kernel⟩

def NamesAt (K : PySem.W.Frag) (H : Hp) (n : Addr) (xs : List V) : Prop := SqL K H n xs ∨ SqT K H n xs
theorem NamesAt.keep {K : PySem.W.Frag} {H H' : Hp} {n d : Addr} {xs : List V} {kvs : List (Key × V)} (h : NamesAt K H n xs) (hd : H d = some (.dK kvs)) (k : ∀ b o, H b = some o → b ≠ d → H' b = some o) : NamesAt K H' n xs := by
  have ne : ∀ {o : HO}, H n = some o → o ≠ .dK kvs → n ≠ d := fun e z => ne_of e hd z
  rcases h with ((h | ⟨o, h⟩) | h) | ((h | ⟨o, h⟩) | h)
  · exact .inl (.inl (.inl (k _ _ h (ne h (by intro z; cases z)))))
  · exact .inl (.inl (.inr ⟨o, k _ _ h (ne h (by intro z; cases z))⟩))
  · exact .inl (.inr h)
  · exact .inr (.inl (.inl (k _ _ h (ne h (by intro z; cases z)))))
  · exact .inr (.inl (.inr ⟨o, k _ _ h (ne h (by intro z; cases z))⟩))
  · exact .inr (.inr h)
theorem NamesAt.same {K : PySem.W.Frag} {H H' : Hp} {n : Addr} {xs : List V} (h : NamesAt K H n xs) (s : Same H H') : NamesAt K H' n xs := h.imp (fun z => s.seq z) (fun z => sameT s z)
/-- without(marks, names): a new dict with some of the entries -/
def spWithout (K : PySem.W.Frag) : Sp := fun vs H Q _ => ∃ (d n : Addr) (kvs : List (Key × V)) (xs : List Str), vs = [.ref d, .ref n] ∧ H d = some (.dK kvs) ∧ kvs.length ≤ 100 ∧ NamesAt K H n (xs.map V.str) ∧
  ∀ (r : Addr) (acc : List (Key × V)) (H' : Hp), Same H H' → H' r = some (.dK acc) → acc.length ≤ 100 → (∀ p ∈ acc, ∃ q ∈ kvs, q.2 = p.2) → Q (.ref r) H'
section
variable {P : Program} {w : World} {K : PySem.W.Frag} {mg : Str → Option Value} {base : Heap}
theorem flat_kV (k : Key) : flatV (kV k) = true := by cases k <;> rfl
theorem ok_without (T : Top K mg) : Keeps P w K mg base CX0 1 d_without P_without (spWithout K) := by
  obtain ⟨fd, F, bd⟩ := T.f_without
  refine keeps0 F bd sc_without (fun vs H Q E h => ?_) (fun cdv A outer s H vs Q E hr h => ?_)
  · obtain ⟨d, n, kvs, xs, rfl, _⟩ := h
    rfl
  obtain ⟨d, n, kvs, xs, rfl, hd, hk, hn, q⟩ := h
  refine ⟨_, (pss_cons (ps_set (i := 2) sc_without.nd rfl (Or.inl rfl) pe_dnewK)
    (pss_cons (ps_lock (ps_for PassesOwn.never rfl (pi_items (pv 0)) (pg_tup rfl (pgs_cons (pg_name (i := 3) sc_without.nd rfl (Or.inl rfl)) (pgs_cons (pg_name (i := 4) sc_without.nd rfl (Or.inl rfl)) pgs_nil)))
    (pss_one (ps_if (pt_cmpR op_notIn_seq (pv 3) (pv 1) rfl)
    (pss_one (ps_dput (hu_of hr) (pv 2) (pv 3) (pv 4) rfl))
    pss_nil))))
    (pss_one (ps_ret (pv 2))))), ?_⟩
  intro f hf
  have ndf : d ≠ f := ne_of_none hd hf
  refine ⟨d, .dK kvs, (by rw [upd_ne ndf]; exact hd), trivial, fun od => ?_⟩
  refine ⟨_, rfl, d, od, kvs, rfl, upd_same, for_it walk_items (fun i σ G => ∃ (v3 v4 : Option V) (acc : List (Key × V)), σ = [some (.ref d), some (.ref n), some (.ref f), v3, v4] ∧ G d = some (.frz od (.dK kvs)) ∧ (∀ b o, H b = some o → b ≠ d → G b = some o) ∧ G f = some (.dK acc) ∧ acc.length ≤ i ∧ ∀ p ∈ acc, ∃ q ∈ kvs, q.2 = p.2)
    ⟨none, none, [], rfl, upd_same, fun b o e hb => ?_, ?_, Nat.le_refl _, fun p hp => by cases hp⟩ (fun i σ G _ h => ?_) ?_ ?_⟩
  · rw [upd_ne hb, upd_ne (ne_of_none e hf)]
    exact e
  · rw [upd_ne (Ne.symm ndf), upd_same]
  · obtain ⟨_, _, _, _, h, _⟩ := h
    exact h
  · rintro i v σ G G' hi ⟨v3, v4, acc, rfl, g1, g2, g3, g4, g5⟩ ⟨t, x, y, rfl, ht, rfl, hx, hy⟩
    have hkv : kvs[i]? = some kvs[i] := List.getElem?_eq_getElem hi
    dsimp only at hx hy
    rw [hkv] at hx hy
    cases hx
    cases hy
    have ntd : d ≠ t := ne_of_none g1 ht
    have ntf : f ≠ t := ne_of_none g3 ht
    refine ⟨t, _, rfl, SqT.of upd_same, rfl, _, _, rfl, _, _, rfl, rfl, ?_⟩
    have keep : ∀ b o, H b = some o → b ≠ d → upd G t (.tup [kV kvs[i].1, kvs[i].2]) b = some o := fun b o e hb => by
      rw [upd_ne (ne_of_none (g2 b o e hb) ht)]
      exact g2 b o e hb
    refine ⟨_, rfl, _, rfl, n, _, rfl, hn.keep hd keep, flat_kV _, all_strs xs, _, rfl, ?_⟩
    refine ifB (fun _ => ?_) (fun _ => ?_)
    · -- found[name] = mark
      refine ⟨_, rfl, _, rfl, _, rfl, f, _, rfl, DPut.k (k := kvs[i].1) (by rw [upd_ne ntf]; exact g3) (small1000 (by omega)), ?_⟩
      refine ⟨_, _, putK acc kvs[i].1 kvs[i].2, rfl, ?_, fun b o e hb => ?_, upd_same, Nat.le_trans (putK_len _ _ _) (Nat.succ_le_succ g4), fun p hp => ?_⟩
      · rw [upd_ne ndf, upd_ne ntd]
        exact g1
      · rw [upd_ne (ne_of_none e hf)]
        exact keep b o e hb
      · rcases putK_mem hp with c | ⟨_, c⟩
        · exact g5 p c
        · exact ⟨kvs[i], List.getElem_mem hi, c.symm⟩
    · refine ⟨_, _, acc, rfl, ?_, keep, ?_, Nat.le_succ_of_le g4, g5⟩
      · rw [upd_ne ntd]
        exact g1
      · rw [upd_ne ntf]
        exact g3
  · rintro σ G ⟨v3, v4, acc, rfl, g1, g2, g3, g4, g5⟩
    refine ⟨g1, _, rfl, ?_⟩
    exact q f acc _ (unlocked hd g2) (by rw [upd_ne (Ne.symm ndf)]; exact g3) (Nat.le_trans g4 hk) g5
end
end W83

namespace W83
open PySem PySem.Spec PyProof.Rows L2
abbrev N_put : List Str := ["term", "marks", "sort", "part"]
abbrev P_put : List Str := ["term", "marks"]
theorem sc_put : FnScope N_put P_put d_put.scope := ⟨rfl, rfl, rfl, by decide +kernel, rfl, by decide +kernel, by decide +kernel⟩

abbrev N_put_in_let : List Str := ["term", "marks", "inner", "pair", "pairs", "name", "one"]
abbrev P_put_in_let : List Str := ["term", "marks"]
theorem sc_put_in_let : FnScope N_put_in_let P_put_in_let d_put_in_let.scope := ⟨rfl, rfl, rfl, by decide +kernel, rfl, by decide +kernel, by decide +kernel⟩

abbrev N_put_in_choice : List Str := ["term", "marks", "chosen", "shape", "names", "body"]
abbrev P_put_in_choice : List Str := ["term", "marks"]
theorem sc_put_in_choice : FnScope N_put_in_choice P_put_in_choice d_put_in_choice.scope := ⟨rfl, rfl, rfl, by decide +kernel, rfl, by decide +kernel, by decide +kernel⟩

/-- put(term, marks): a term of no greater depth; all that stood stands -/
def spPut (d : Nat) : Sp := fun vs H Q _ => ∃ (M : Nat → Prop) (v : V) (dm : Addr) (kvs : List (Key × V)), vs = [v, .ref dm] ∧ Tm M H d v ∧ MarksD M H dm kvs ∧
  ∀ (v' : V) (H' : Hp), Same H H' → Tm M H' d v' → Q v' H'
def spPutLet (d : Nat) : Sp := fun vs H Q _ => ∃ (M : Nat → Prop) (a p : Addr) (prs : List V) (b : V) (dm : Addr) (kvs : List (Key × V)), vs = [.ref a, .ref dm] ∧ H a = some (.tup [.str "let", .ref p, b]) ∧ H p = some (.tup prs) ∧ prs.length ≤ 6 ∧
  (∀ v ∈ prs, Prr H (Tm M H d) v) ∧ Tm M H d b ∧ MarksD M H dm kvs ∧ ∀ (v' : V) (H' : Hp), Same H H' → Tm M H' (d + 1) v' → Q v' H'
def spPutCho (d : Nat) : Sp := fun vs H Q _ => ∃ (M : Nat → Prop) (a p : Addr) (as : List V) (e : V) (dm : Addr) (kvs : List (Key × V)), vs = [.ref a, .ref dm] ∧ H a = some (.tup [.str "choose", e, .ref p]) ∧ H p = some (.tup as) ∧ as.length ≤ 6 ∧
  (∀ v ∈ as, ∃ c, Alt H (Tm M H d) c v) ∧ Tm M H d e ∧ MarksD M H dm kvs ∧ ∀ (v' : V) (H' : Hp), Same H H' → Tm M H' (d + 1) v' → Q v' H'
section
variable {P : Program} {w : World} {K : PySem.W.Frag} {mg : Str → Option Value} {base : Heap}
theorem tm_same {M : Nat → Prop} {H H' : Hp} {d : Nat} {v : V} (h : Tm M H d v) (s : Same H H') : Tm M H' d v := h.keep (sameTupK s)
theorem ok_put_step (T : Top K mg) {d : Nat} (hW : Keeps P w K mg base CX0 1 d_without P_without (spWithout K)) (hP : Keeps P w K mg base CX0 (2 * d + 1) d_put P_put (spPut d))
    (hL : Keeps P w K mg base CX0 (2 * d + 2) d_put_in_let P_put_in_let (spPutLet d)) (hC : Keeps P w K mg base CX0 (2 * d + 2) d_put_in_choice P_put_in_choice (spPutCho d)) :
    Keeps P w K mg base CX0 (2 * d + 2 + 1) d_put P_put (spPut (d + 1)) := by
  obtain ⟨fd, F, bd⟩ := T.f_put
  obtain ⟨_, G_without⟩ := hW
  obtain ⟨_, G_put⟩ := hP
  obtain ⟨_, G_put_in_let⟩ := hL
  obtain ⟨_, G_put_in_choice⟩ := hC
  refine keeps0 F bd sc_put (fun vs H Q E h => ?_) (fun cdv A outer s H vs Q E hr h => ?_)
  · obtain ⟨M, v, dm, kvs, rfl, _⟩ := h
    rfl
  obtain ⟨M, v, dm, kvs, rfl, hv, hm, q⟩ := h
  refine ⟨_, (pss_cons (ps_set (i := 2) sc_put.nd rfl (Or.inl rfl) (pe_ix ix_tup (pv 0) pe_int (fun _ _ => rfl)))
    (pss_cons (ps_if (pt_cmpR op_eq (pv 2) pe_str (nomark _))
    (pss_one (ps_ret (pe_dget2 (hu_of hr) (pv 1) (pe_ix ix_tup (pv 0) pe_int (fun _ _ => rfl)) (pv 0) ⟨rfl, rfl, rfl, rfl⟩)))
    pss_nil)
    (pss_cons (ps_if (pt_cmpR op_eq (pv 2) pe_str (nomark _))
    (pss_one (ps_ret (pe_tup (pa_cons pe_str (pa_cons (pe_ix ix_tup (pv 0) pe_int (fun _ _ => rfl)) (pa_cons (pe_call G_put.ok (hr.mono (by omega)) rfl T.g_put G_put.kp G_put.bd .nil pass0 (pa_cons (pe_ix ix_tup (pv 0) pe_int (fun _ _ => rfl)) (pa_cons (pv 1) pa_nil))) (pa_cons (pe_call G_put.ok (hr.mono (by omega)) rfl T.g_put G_put.kp G_put.bd .nil pass0 (pa_cons (pe_ix ix_tup (pv 0) pe_int (fun _ _ => rfl)) (pa_cons (pv 1) pa_nil))) pa_nil)))))))
    pss_nil)
    (pss_cons (ps_if (pt_cmpR op_eq (pv 2) pe_str (nomark _))
    (pss_one (ps_ret (pe_tup (pa_cons pe_str (pa_cons (pe_ix ix_tup (pv 0) pe_int (fun _ _ => rfl)) (pa_cons (pe_call G_put.ok (hr.mono (by omega)) rfl T.g_put G_put.kp G_put.bd .nil pass0 (pa_cons (pe_ix ix_tup (pv 0) pe_int (fun _ _ => rfl)) (pa_cons (pe_call G_without.ok (hr.mono (by omega)) rfl T.g_without G_without.kp G_without.bd .nil pass0 (pa_cons (pv 1) (pa_cons (pe_lst (pa_cons (pe_ix ix_tup (pv 0) pe_int (fun _ _ => rfl)) pa_nil)) pa_nil))) pa_nil))) pa_nil))))))
    pss_nil)
    (pss_cons (ps_if (pt_cmpR op_eq (pv 2) pe_str (nomark _))
    (pss_one (ps_ret (pe_tup (pa_cons pe_str (pa_cons (pe_call G_put.ok (hr.mono (by omega)) rfl T.g_put G_put.kp G_put.bd .nil pass0 (pa_cons (pe_ix ix_tup (pv 0) pe_int (fun _ _ => rfl)) (pa_cons (pv 1) pa_nil))) (pa_cons (pe_call G_put.ok (hr.mono (by omega)) rfl T.g_put G_put.kp G_put.bd .nil pass0 (pa_cons (pe_ix ix_tup (pv 0) pe_int (fun _ _ => rfl)) (pa_cons (pv 1) pa_nil))) pa_nil))))))
    pss_nil)
    (pss_cons (ps_if (pt_cmpR op_eq (pv 2) pe_str (nomark _))
    (pss_one (ps_ret (pe_tup (pa_cons pe_str (pa_cons (pe_call G_put.ok (hr.mono (by omega)) rfl T.g_put G_put.kp G_put.bd .nil pass0 (pa_cons (pe_ix ix_tup (pv 0) pe_int (fun _ _ => rfl)) (pa_cons (pv 1) pa_nil))) (pa_cons (pe_call G_put.ok (hr.mono (by omega)) rfl T.g_put G_put.kp G_put.bd .nil pass0 (pa_cons (pe_ix ix_tup (pv 0) pe_int (fun _ _ => rfl)) (pa_cons (pv 1) pa_nil))) pa_nil))))))
    pss_nil)
    (pss_cons (ps_if (pt_cmpR op_eq (pv 2) pe_str (nomark _))
    (pss_one (ps_ret (pe_call G_put_in_let.ok (hr.mono (by omega)) rfl T.g_put_in_let G_put_in_let.kp G_put_in_let.bd .nil pass0 (pa_cons (pv 0) (pa_cons (pv 1) pa_nil)))))
    pss_nil)
    (pss_cons (ps_if (pt_cmpR op_eq (pv 2) pe_str (nomark _))
    (pss_one (ps_ret (pe_tup (pa_cons pe_str (pa_cons (pe_ix ix_tup (pv 0) pe_int (fun _ _ => rfl)) (pa_cons (pe_callTy call_tuple_of (by rfl) T.z_tuple (by decide +kernel) (pa_cons (pe_lc (own := [("part", 3)]) (g := gName 3) rfl sc_put.nd (pi_tup (pe_ix ix_tup (pv 0) pe_int (fun _ _ => rfl))) (blkOk_by (own := [("part", 3)]) (N := N_put) (sc := d_put.scope) (by decide +kernel)) (fun _ _ _ _ _ => (pg_name (i := 3) sc_put.nd rfl (Or.inl rfl))) (fun _ _ _ _ _ => pts_nil) (fun _ _ _ _ _ => (pe_call G_put.ok (hr.mono (by omega)) rfl T.g_put G_put.kp G_put.bd .nil pass0 (pa_cons (pv 3) (pa_cons (pv 1) pa_nil))))) pa_nil)) pa_nil))))))
    pss_nil)
    (pss_cons (ps_if (pt_cmpR op_eq (pv 2) pe_str (nomark _))
    (pss_one (ps_ret (pe_call G_put_in_choice.ok (hr.mono (by omega)) rfl T.g_put_in_choice G_put_in_choice.kp G_put_in_choice.bd .nil pass0 (pa_cons (pv 0) (pa_cons (pv 1) pa_nil)))))
    pss_nil)
    (pss_cons (ps_if (pt_cmpR op_eq (pv 2) pe_str (nomark _))
    (pss_one ps_never)
    pss_nil)
    (pss_one (ps_ret (pv 0))))))))))))), ?_⟩
  obtain ⟨a, xs, rfl, ha, hs⟩ := hv
  have ln : ∀ n, n ≤ 1000 → n ≤ sizeLine := fun n h => small50 h
  cases hs with
  | at_ k hk =>
    refine ⟨_, rfl, a, _, _, _, rfl, rfl, SqT.of ha, rfl, ?_⟩
    iterate 9 refine ⟨_, rfl, rfl, _, rfl, ifF (by decide +kernel) ?_⟩
    exact ⟨_, rfl, q _ _ (Same.refl _) ⟨a, _, rfl, ha, .at_ k hk⟩⟩
  | name x =>
    refine ⟨_, rfl, a, _, _, _, rfl, rfl, SqT.of ha, rfl, ?_⟩
    refine ⟨_, rfl, rfl, _, rfl, ifT (by decide +kernel) ?_⟩
    refine ⟨_, rfl, dm, rfl, .inl ⟨kvs, .inl hm.1⟩, _, rfl, a, _, _, _, rfl, rfl, SqT.of ha, rfl, _, rfl, valV kvs (Sum.inr x), DGet.k (k := Sum.inr x) hm.1, ?_⟩
    cases e : valV kvs (Sum.inr x) with
    | none => exact q _ _ (Same.refl _) ⟨a, _, rfl, ha, .name x⟩
    | some u =>
      obtain ⟨p, hp, e1, _⟩ := valV_mem e
      subst e1
      exact q _ _ (Same.refl _) ((hm.2.2 p hp).tm d)
  | number i h0 h1 =>
    refine ⟨_, rfl, a, _, _, _, rfl, rfl, SqT.of ha, rfl, ?_⟩
    iterate 9 refine ⟨_, rfl, rfl, _, rfl, ifF (by decide +kernel) ?_⟩
    exact ⟨_, rfl, q _ _ (Same.refl _) ⟨a, _, rfl, ha, .number i h0 h1⟩⟩
  | stop x =>
    refine ⟨_, rfl, a, _, _, _, rfl, rfl, SqT.of ha, rfl, ?_⟩
    iterate 9 refine ⟨_, rfl, rfl, _, rfl, ifF (by decide +kernel) ?_⟩
    exact ⟨_, rfl, q _ _ (Same.refl _) ⟨a, _, rfl, ha, .stop x⟩⟩
  | does op l r hl hr' =>
    refine ⟨_, rfl, a, _, _, _, rfl, rfl, SqT.of ha, rfl, ?_⟩
    iterate 1 refine ⟨_, rfl, rfl, _, rfl, ifF (by decide +kernel) ?_⟩
    refine ⟨_, rfl, rfl, _, rfl, ifT (by decide +kernel) ?_⟩
    refine ⟨_, rfl, a, _, _, _, rfl, rfl, SqT.of ha, rfl, _, rfl, a, _, _, _, rfl, rfl, SqT.of ha, rfl, _, rfl, M, l, dm, kvs, rfl, hl, hm, fun v1 H1 s1 t1 => ?_⟩
    refine ⟨_, rfl, a, _, _, _, rfl, rfl, SqT.of (s1 _ _ ha), rfl, _, rfl, M, r, dm, kvs, rfl, tm_same hr' s1, hm.same s1, fun v2 H2 s2 t2 => ?_⟩
    refine ⟨ln 4 (by decide), fun p hp => ?_⟩
    have s3 := same_new (o := .tup [.str "does", .str op, v1, v2]) hp
    exact q _ _ ((s1.trans s2).trans s3) ⟨p, _, rfl, upd_same, .does op v1 v2 (tm_same t1 (s2.trans s3)) (tm_same t2 s3)⟩
  | fun_ x b hb =>
    refine ⟨_, rfl, a, _, _, _, rfl, rfl, SqT.of ha, rfl, ?_⟩
    iterate 2 refine ⟨_, rfl, rfl, _, rfl, ifF (by decide +kernel) ?_⟩
    refine ⟨_, rfl, rfl, _, rfl, ifT (by decide +kernel) ?_⟩
    refine ⟨_, rfl, a, _, _, _, rfl, rfl, SqT.of ha, rfl, _, rfl, a, _, _, _, rfl, rfl, SqT.of ha, rfl, _, rfl, _, rfl, a, _, _, _, rfl, rfl, SqT.of ha, rfl, ln 1 (by decide), fun n hn => ?_⟩
    have s1 := same_new (o := .lst [.str x]) hn
    refine ⟨dm, n, kvs, [x], rfl, s1 _ _ hm.1, hm.2.1, .inl (SqL.of upd_same), fun dr acc H2 s2 e2 l2 k2 => ?_⟩
    have s12 := s1.trans s2
    refine ⟨M, b, dr, acc, rfl, tm_same hb s12, ⟨e2, l2, fun p hp => ?_⟩, fun v1 H3 s3 t1 => ?_⟩
    · obtain ⟨z, hz, e⟩ := k2 p hp
      rw [← e]
      exact (hm.2.2 z hz).mono (fun _ z => z) (sameTupK s12)
    refine ⟨ln 3 (by decide), fun p hp => ?_⟩
    have s4 := same_new (o := .tup [.str "fun", .str x, v1]) hp
    exact q _ _ ((s12.trans s3).trans s4) ⟨p, _, rfl, upd_same, .fun_ x v1 (tm_same t1 s4)⟩
  | call f b hf hb =>
    refine ⟨_, rfl, a, _, _, _, rfl, rfl, SqT.of ha, rfl, ?_⟩
    iterate 3 refine ⟨_, rfl, rfl, _, rfl, ifF (by decide +kernel) ?_⟩
    refine ⟨_, rfl, rfl, _, rfl, ifT (by decide +kernel) ?_⟩
    refine ⟨_, rfl, a, _, _, _, rfl, rfl, SqT.of ha, rfl, _, rfl, M, f, dm, kvs, rfl, hf, hm, fun v1 H1 s1 t1 => ?_⟩
    refine ⟨_, rfl, a, _, _, _, rfl, rfl, SqT.of (s1 _ _ ha), rfl, _, rfl, M, b, dm, kvs, rfl, tm_same hb s1, hm.same s1, fun v2 H2 s2 t2 => ?_⟩
    refine ⟨ln 3 (by decide), fun p hp => ?_⟩
    have s3 := same_new (o := .tup [.str "call", v1, v2]) hp
    exact q _ _ ((s1.trans s2).trans s3) ⟨p, _, rfl, upd_same, .call v1 v2 (tm_same t1 (s2.trans s3)) (tm_same t2 s3)⟩
  | first f b hf hb =>
    refine ⟨_, rfl, a, _, _, _, rfl, rfl, SqT.of ha, rfl, ?_⟩
    iterate 4 refine ⟨_, rfl, rfl, _, rfl, ifF (by decide +kernel) ?_⟩
    refine ⟨_, rfl, rfl, _, rfl, ifT (by decide +kernel) ?_⟩
    refine ⟨_, rfl, a, _, _, _, rfl, rfl, SqT.of ha, rfl, _, rfl, M, f, dm, kvs, rfl, hf, hm, fun v1 H1 s1 t1 => ?_⟩
    refine ⟨_, rfl, a, _, _, _, rfl, rfl, SqT.of (s1 _ _ ha), rfl, _, rfl, M, b, dm, kvs, rfl, tm_same hb s1, hm.same s1, fun v2 H2 s2 t2 => ?_⟩
    refine ⟨ln 3 (by decide), fun p hp => ?_⟩
    have s3 := same_new (o := .tup [.str "first", v1, v2]) hp
    exact q _ _ ((s1.trans s2).trans s3) ⟨p, _, rfl, upd_same, .first v1 v2 (tm_same t1 (s2.trans s3)) (tm_same t2 s3)⟩
  | let_ p prs b hp hl he hb =>
    refine ⟨_, rfl, a, _, _, _, rfl, rfl, SqT.of ha, rfl, ?_⟩
    iterate 5 refine ⟨_, rfl, rfl, _, rfl, ifF (by decide +kernel) ?_⟩
    refine ⟨_, rfl, rfl, _, rfl, ifT (by decide +kernel) ?_⟩
    exact ⟨_, rfl, _, rfl, M, a, p, prs, b, dm, kvs, rfl, ha, hp, hl, he, hb, hm, q⟩
  | shape c p ps hp hl he hc =>
    refine ⟨_, rfl, a, _, _, _, rfl, rfl, SqT.of ha, rfl, ?_⟩
    iterate 6 refine ⟨_, rfl, rfl, _, rfl, ifF (by decide +kernel) ?_⟩
    refine ⟨_, rfl, rfl, _, rfl, ifT (by decide +kernel) ?_⟩
    refine ⟨_, rfl, a, _, _, _, rfl, rfl, SqT.of ha, rfl, _, rfl, a, _, _, _, rfl, rfl, SqT.of ha, rfl, p, rfl, ⟨ps, SqT.of hp⟩, fun L hL => ?_⟩
    refine lc_tup (K := K) (a := p) (xs := ps) (fun i G => Same H G ∧ ∃ acc, G L = some (.lst acc) ∧ acc.length = i ∧ ∀ v ∈ acc, Tm M G d v) ⟨same_new hL, [], upd_same, rfl, fun v h => by cases h⟩ (fun i G _ h => sameT h.1 (SqT.of hp)) ?_ ?_
    · rintro i v G hi ⟨sG, acc, g1, g2, g3⟩
      refine ⟨rfl, ?_⟩
      refine ⟨_, rfl, _, rfl, M, v, dm, kvs, rfl, tm_same (he v (List.mem_of_getElem? hi)) sG, hm.same sG, fun v1 H1 s1 t1 => ?_⟩
      have hlt : i < ps.length := (List.getElem?_eq_some_iff.mp hi).1
      have nt : TupK H1 (upd H1 L (.lst (acc ++ [v1]))) := tupK_upd (s1 _ _ g1) (fun xs z => by cases z)
      refine ⟨acc, s1 _ _ g1, small1000 (by omega), fun b o e => ?_, acc ++ [v1], upd_same, by rw [List.length_append, g2]; rfl, fun u hu => ?_⟩
      · rw [upd_ne (ne_of_none e hL)]
        exact s1 _ _ (sG _ _ e)
      · rcases List.mem_append.mp hu with c | c
        · exact (tm_same (g3 u c) s1).keep nt
        · rw [List.mem_singleton.mp c]
          exact t1.keep nt
    · rintro G ⟨sG, acc, g1, g2, g3⟩
      refine ⟨L, acc, rfl, .inl ⟨SqL.of g1, fun t ht => ?_⟩⟩
      have s1 := same_new (o := .tup acc) ht
      refine ⟨ln 3 (by decide), fun r hr' => ?_⟩
      have s2 := same_new (o := .tup [.str "shape", .str c, .ref t]) hr'
      exact q _ _ ((sG.trans s1).trans s2) ⟨r, _, rfl, upd_same, .shape c t acc (s2 _ _ upd_same) (by rw [g2]; exact hl) (fun v hv => tm_same (g3 v hv) (s1.trans s2)) hc⟩
  | choose e p as he hp hl hal =>
    refine ⟨_, rfl, a, _, _, _, rfl, rfl, SqT.of ha, rfl, ?_⟩
    iterate 7 refine ⟨_, rfl, rfl, _, rfl, ifF (by decide +kernel) ?_⟩
    refine ⟨_, rfl, rfl, _, rfl, ifT (by decide +kernel) ?_⟩
    exact ⟨_, rfl, _, rfl, M, a, p, as, e, dm, kvs, rfl, ha, hp, hl, hal, he, hm, q⟩
end
end W83

namespace W83
open PySem PySem.Spec PyProof.Rows L2
section
variable {P : Program} {w : World} {K : PySem.W.Frag} {mg : Str → Option Value} {base : Heap}
theorem prr_same {M : Nat → Prop} {H H' : Hp} {d : Nat} {v : V} (h : Prr H (Tm M H d) v) (s : Same H H') : Prr H' (Tm M H' d) v := by
  obtain ⟨b, x, e, h1, h2, h3⟩ := h
  exact ⟨b, x, e, h1, s _ _ h2, tm_same h3 s⟩
theorem prr_keep {M : Nat → Prop} {H H' : Hp} {d : Nat} {v : V} (h : Prr H (Tm M H d) v) (s : TupK H H') : Prr H' (Tm M H' d) v := by
  obtain ⟨b, x, e, h1, h2, h3⟩ := h
  exact ⟨b, x, e, h1, s _ _ h2, h3.keep s⟩
theorem alt_same {M : Nat → Prop} {H H' : Hp} {d : Nat} {c : Str} {v : V} (h : Alt H (Tm M H d) c v) (s : TupK H H') : Alt H' (Tm M H' d) c v := by
  obtain ⟨b, n, e, xs, h1, h2, h3, h4⟩ := h
  exact ⟨b, n, e, xs, h1, s _ _ h2, s _ _ h3, h4.keep s⟩
theorem marks_sub {M : Nat → Prop} {H H' : Hp} {dm dr : Addr} {kvs acc : List (Key × V)} (h : MarksD M H dm kvs) (s : Same H H') (e : H' dr = some (.dK acc)) (l : acc.length ≤ 100) (k : ∀ p ∈ acc, ∃ q ∈ kvs, q.2 = p.2) : MarksD M H' dr acc :=
  ⟨e, l, fun p hp => by
    obtain ⟨z, hz, ez⟩ := k p hp
    rw [← ez]
    exact (h.2.2 z hz).mono (fun _ z => z) (sameTupK s)⟩
theorem same_grow {H G : Hp} {L : Addr} {o : HO} (s : Same H G) (hL : H L = none) : Same H (upd G L o) := fun b u e => by
  rw [upd_ne (ne_of_none e hL)]
  exact s _ _ e
/-- the names of pairs -/
def PrsN (H : Hp) (R : V → Prop) (prs : List V) (xs : List Str) : Prop := prs.length = xs.length ∧ ∀ (i : Nat) (v : V), prs[i]? = some v → ∃ b x e, v = .ref b ∧ H b = some (.tup [.str x, e]) ∧ R e ∧ xs[i]? = some x
theorem prs_names {H : Hp} {R : V → Prop} : ∀ (prs : List V), (∀ v ∈ prs, Prr H R v) → ∃ xs, PrsN H R prs xs
  | [], _ => ⟨[], rfl, fun i v h => by simp at h⟩
  | v :: r, h => by
    obtain ⟨xs, h1, h2⟩ := prs_names r fun u hu => h u (List.mem_cons_of_mem _ hu)
    obtain ⟨b, x, e, a1, a2, a3⟩ := h v List.mem_cons_self
    refine ⟨x :: xs, by simp [h1], fun i u hi => ?_⟩
    cases i with
    | zero =>
      have : v = u := by simpa using hi
      subst this
      exact ⟨b, x, e, a1, a2, a3, rfl⟩
    | succ j => exact h2 j u (by simpa using hi)
theorem ok_put_in_let (T : Top K mg) {d : Nat} (hW : Keeps P w K mg base CX0 1 d_without P_without (spWithout K)) (hP : Keeps P w K mg base CX0 (2 * d + 1) d_put P_put (spPut d)) :
    Keeps P w K mg base CX0 (2 * d + 1 + 1) d_put_in_let P_put_in_let (spPutLet d) := by
  obtain ⟨fd, F, bd⟩ := T.f_put_in_let
  obtain ⟨_, G_without⟩ := hW
  obtain ⟨_, G_put⟩ := hP
  refine keeps0 F bd sc_put_in_let (fun vs H Q E h => ?_) (fun cdv A outer s H vs Q E hr h => ?_)
  · obtain ⟨M, a, p, prs, b, dm, kvs, rfl, _⟩ := h
    rfl
  obtain ⟨M, a, p, prs, b, dm, kvs, rfl, ha, hp, hl, he, hb, hm, q⟩ := h
  refine ⟨_, (pss_cons (ps_set (i := 2) sc_put_in_let.nd rfl (Or.inl rfl) (pe_call G_without.ok (hr.mono (by omega)) rfl T.g_without G_without.kp G_without.bd .nil pass0 (pa_cons (pv 1) (pa_cons (pe_lc (own := [("pair", 3)]) (g := gName 3) rfl sc_put_in_let.nd (pi_tup (pe_ix ix_tup (pv 0) pe_int (fun _ _ => rfl))) (blkOk_by (own := [("pair", 3)]) (N := N_put_in_let) (sc := d_put_in_let.scope) (by decide +kernel)) (fun _ _ _ _ _ => (pg_name (i := 3) sc_put_in_let.nd rfl (Or.inl rfl))) (fun _ _ _ _ _ => pts_nil) (fun _ _ _ _ _ => (pe_ix (show IxR _ (rIxT K) from ix_tup) (pv 3) pe_int (fun _ _ => rfl)))) pa_nil))))
    (pss_cons (ps_set (i := 4) sc_put_in_let.nd rfl (Or.inl rfl) (pe_lst pa_nil))
    (pss_cons (ps_for PassesOwn.never rfl (pi_tup (pe_ix ix_tup (pv 0) pe_int (fun _ _ => rfl))) (pg_tup rfl (pgs_cons (pg_name (i := 5) sc_put_in_let.nd rfl (Or.inl rfl)) (pgs_cons (pg_name (i := 6) sc_put_in_let.nd rfl (Or.inl rfl)) pgs_nil)))
    (pss_one (ps_expr (pe_bm PySem.F.plainAttrs_list PySem.F.slot_list_append PySem.F.type_list_append mt_append (pv 4) (pa_cons (pe_tup (pa_cons (pv 5) (pa_cons (pe_call G_put.ok (hr.mono (by omega)) rfl T.g_put G_put.kp G_put.bd .nil pass0 (pa_cons (pv 6) (pa_cons (pv 2) pa_nil))) pa_nil))) pa_nil)))))
    (pss_one (ps_ret (pe_tup (pa_cons pe_str (pa_cons (pe_callTy call_tuple_of (by rfl) T.z_tuple (by decide +kernel) (pa_cons (pv 4) pa_nil)) (pa_cons (pe_call G_put.ok (hr.mono (by omega)) rfl T.g_put G_put.kp G_put.bd .nil pass0 (pa_cons (pe_ix ix_tup (pv 0) pe_int (fun _ _ => rfl)) (pa_cons (pv 2) pa_nil))) pa_nil))))))))), ?_⟩
  obtain ⟨xs, hx1, hx2⟩ := prs_names prs he
  refine ⟨_, rfl, _, rfl, a, _, _, _, rfl, rfl, SqT.of ha, rfl, p, rfl, ⟨prs, SqT.of hp⟩, fun L hL => ?_⟩
  refine lc_tup (K := K) (a := p) (xs := prs) (fun i G => Same H G ∧ G L = some (.lst ((xs.take i).map V.str))) ⟨same_new hL, upd_same⟩ (fun i G _ h => sameT h.1 (SqT.of hp)) ?_ ?_
  · rintro i v G hi ⟨sG, g1⟩
    obtain ⟨c, x, e, rfl, hc, _, hxi⟩ := hx2 i v hi
    have hlt := (List.getElem?_eq_some_iff.mp hi).1
    refine ⟨rfl, ?_⟩
    refine ⟨_, rfl, c, _, _, _, rfl, rfl, SqT.of (sG _ _ hc), rfl, _, g1, small1000 (by simp; omega), same_grow sG hL, ?_⟩
    rw [upd_same, take_snoc hxi, List.map_append]
    rfl
  rintro G ⟨sG, g1⟩
  have ex : xs.take prs.length = xs := List.take_of_length_le (by omega)
  rw [ex] at g1
  refine ⟨dm, L, kvs, xs, rfl, sG _ _ hm.1, hm.2.1, .inl (SqL.of g1), fun dr acc H2 s2 e2 l2 k2 => ?_⟩
  have s12 := sG.trans s2
  have hm2 := marks_sub hm s12 e2 l2 k2
  -- pairs = []
  refine ⟨small50 (by simp), fun L2 hL2 => ?_⟩
  refine ⟨_, rfl, a, _, _, _, rfl, rfl, SqT.of (same_new hL2 _ _ (s12 _ _ ha)), rfl, p, rfl, ⟨prs, SqT.of (same_new hL2 _ _ (s12 _ _ hp))⟩, for_tup (K := K) (a := p) (xs := prs)
    (fun i σ G => ∃ v3 v5 v6, σ = [some (.ref a), some (.ref dm), some (.ref dr), v3, some (.ref L2), v5, v6] ∧ Same H2 G ∧ ∃ acc2, G L2 = some (.lst acc2) ∧ acc2.length = i ∧ ∀ v ∈ acc2, Prr G (Tm M G d) v)
    ⟨_, _, _, rfl, same_new hL2, [], upd_same, rfl, fun v h => by cases h⟩ (fun i σ G _ h => ?_) ?_ ?_⟩
  · obtain ⟨_, _, _, _, h, _⟩ := h
    exact sameT (s12.trans h) (SqT.of hp)
  · rintro i v σ G hi ⟨v3, v5, v6, rfl, s3, acc2, g2, g3, g4⟩
    obtain ⟨c, x, e, rfl, hc, he', hxi⟩ := hx2 i v hi
    have s13 := s12.trans s3
    refine ⟨c, _, rfl, SqT.of (s13 _ _ hc), rfl, _, _, rfl, _, _, rfl, rfl, ?_⟩
    refine ⟨_, rfl, .inl ⟨rfl, _, SqL.of g2⟩, _, rfl, _, rfl, _, rfl, M, e, dr, acc, rfl, tm_same he' s13, hm2.same s3, fun v1 H4 s4 t4 => ?_⟩
    refine ⟨small50 (by simp), fun t ht => ?_⟩
    have s5 := same_new (o := .tup [.str x, v1]) ht
    have hlt := (List.getElem?_eq_some_iff.mp hi).1
    have s45 := s4.trans s5
    refine ⟨L2, _, _, rfl, rfl, s45 _ _ g2, small1000 (by omega), ?_⟩
    have nt : TupK _ (upd (upd H4 t (.tup [.str x, v1])) L2 (.lst (acc2 ++ [V.ref t]))) := tupK_upd (s45 _ _ g2) (fun xs z => by cases z)
    refine ⟨_, _, _, rfl, same_grow (s3.trans s45) hL2, acc2 ++ [V.ref t], upd_same, by rw [List.length_append, g3]; rfl, fun u hu => ?_⟩
    rcases List.mem_append.mp hu with z | z
    · exact prr_keep (prr_same (g4 u z) s45) nt
    · rw [List.mem_singleton.mp z]
      exact ⟨t, x, v1, rfl, nt _ _ upd_same, (tm_same t4 s5).keep nt⟩
  rintro σ G ⟨v3, v5, v6, rfl, s3, acc2, g2, g3, g4⟩
  have s13 := s12.trans s3
  refine ⟨_, rfl, L2, acc2, rfl, .inl ⟨SqL.of g2, fun t ht => ?_⟩⟩
  have s4 := same_new (o := .tup acc2) ht
  have s14 := s13.trans s4
  refine ⟨_, rfl, a, _, _, _, rfl, rfl, SqT.of (s14 _ _ ha), rfl, _, rfl, M, b, dr, acc, rfl, tm_same hb s14, hm2.same (s3.trans s4), fun v1 H5 s5 t5 => ?_⟩
  refine ⟨small50 (by simp), fun r hr' => ?_⟩
  have s6 := same_new (o := .tup [.str "let", .ref t, v1]) hr'
  have s56 := s5.trans s6
  exact q _ _ (s14.trans s56) ⟨r, _, rfl, upd_same, .let_ t acc2 v1 (s56 _ _ upd_same) (by rw [g3]; exact hl) (fun v hv => prr_same (prr_same (g4 v hv) s4) s56) (tm_same t5 s6)⟩
theorem ok_put_in_choice (T : Top K mg) {d : Nat} (hW : Keeps P w K mg base CX0 1 d_without P_without (spWithout K)) (hP : Keeps P w K mg base CX0 (2 * d + 1) d_put P_put (spPut d)) :
    Keeps P w K mg base CX0 (2 * d + 1 + 1) d_put_in_choice P_put_in_choice (spPutCho d) := by
  obtain ⟨fd, F, bd⟩ := T.f_put_in_choice
  obtain ⟨_, G_without⟩ := hW
  obtain ⟨_, G_put⟩ := hP
  refine keeps0 F bd sc_put_in_choice (fun vs H Q E h => ?_) (fun cdv A outer s H vs Q E hr h => ?_)
  · obtain ⟨M, a, p, as, e, dm, kvs, rfl, _⟩ := h
    rfl
  obtain ⟨M, a, p, as, e, dm, kvs, rfl, ha, hp, hl, hal, he, hm, q⟩ := h
  refine ⟨_, (pss_cons (ps_set (i := 2) sc_put_in_choice.nd rfl (Or.inl rfl) (pe_lst pa_nil))
    (pss_cons (ps_for PassesOwn.never rfl (pi_tup (pe_ix ix_tup (pv 0) pe_int (fun _ _ => rfl))) (pg_tup rfl (pgs_cons (pg_name (i := 3) sc_put_in_choice.nd rfl (Or.inl rfl)) (pgs_cons (pg_name (i := 4) sc_put_in_choice.nd rfl (Or.inl rfl)) (pgs_cons (pg_name (i := 5) sc_put_in_choice.nd rfl (Or.inl rfl)) pgs_nil))))
    (pss_one (ps_expr (pe_bm PySem.F.plainAttrs_list PySem.F.slot_list_append PySem.F.type_list_append mt_append (pv 2) (pa_cons (pe_tup (pa_cons (pv 3) (pa_cons (pv 4) (pa_cons (pe_call G_put.ok (hr.mono (by omega)) rfl T.g_put G_put.kp G_put.bd .nil pass0 (pa_cons (pv 5) (pa_cons (pe_call G_without.ok (hr.mono (by omega)) rfl T.g_without G_without.kp G_without.bd .nil pass0 (pa_cons (pv 1) (pa_cons (pv 4) pa_nil))) pa_nil))) pa_nil)))) pa_nil)))))
    (pss_one (ps_ret (pe_tup (pa_cons pe_str (pa_cons (pe_call G_put.ok (hr.mono (by omega)) rfl T.g_put G_put.kp G_put.bd .nil pass0 (pa_cons (pe_ix ix_tup (pv 0) pe_int (fun _ _ => rfl)) (pa_cons (pv 1) pa_nil))) (pa_cons (pe_callTy call_tuple_of (by rfl) T.z_tuple (by decide +kernel) (pa_cons (pv 2) pa_nil)) pa_nil)))))))), ?_⟩
  refine ⟨small50 (by simp), fun L hL => ?_⟩
  have s1 := same_new (o := .lst []) hL
  refine ⟨_, rfl, a, _, _, _, rfl, rfl, SqT.of (s1 _ _ ha), rfl, p, rfl, ⟨as, SqT.of (s1 _ _ hp)⟩, for_tup (K := K) (a := p) (xs := as)
    (fun i σ G => ∃ v3 v4 v5, σ = [some (.ref a), some (.ref dm), some (.ref L), v3, v4, v5] ∧ Same H G ∧ ∃ acc, G L = some (.lst acc) ∧ acc.length = i ∧ ∀ v ∈ acc, ∃ c, Alt G (Tm M G d) c v)
    ⟨_, _, _, rfl, s1, [], upd_same, rfl, fun v h => by cases h⟩ (fun i σ G _ h => ?_) ?_ ?_⟩
  · obtain ⟨_, _, _, _, h, _⟩ := h
    exact sameT h (SqT.of hp)
  · rintro i v σ G hi ⟨v3, v4, v5, rfl, s2, acc, g2, g3, g4⟩
    obtain ⟨c, b, n, f, xs, rfl, hb, hn, hf⟩ := hal v (List.mem_of_getElem? hi)
    refine ⟨b, _, rfl, SqT.of (s2 _ _ hb), rfl, _, _, rfl, _, _, rfl, _, _, rfl, rfl, ?_⟩
    have hm2 := hm.same s2
    refine ⟨_, rfl, .inl ⟨rfl, _, SqL.of g2⟩, _, rfl, _, rfl, _, rfl, _, rfl, _, rfl, dm, n, kvs, xs, rfl, hm2.1, hm2.2.1, .inr (SqT.of (s2 _ _ hn)), fun dr acc2 H3 s3 e3 l3 k3 => ?_⟩
    have s23 := s2.trans s3
    refine ⟨M, f, dr, acc2, rfl, tm_same hf s23, marks_sub hm s23 e3 l3 k3, fun v1 H4 s4 t4 => ?_⟩
    refine ⟨small50 (by simp), fun t ht => ?_⟩
    have s5 := same_new (o := .tup [.str c, .ref n, v1]) ht
    have s35 := s3.trans (s4.trans s5)
    have hlt := (List.getElem?_eq_some_iff.mp hi).1
    refine ⟨L, _, _, rfl, rfl, s35 _ _ g2, small1000 (by omega), ?_⟩
    have nt : TupK _ (upd (upd H4 t (.tup [.str c, .ref n, v1])) L (.lst (acc ++ [V.ref t]))) := tupK_upd (s35 _ _ g2) (fun xs z => by cases z)
    refine ⟨_, _, _, rfl, same_grow (s2.trans s35) hL, acc ++ [V.ref t], upd_same, by rw [List.length_append, g3]; rfl, fun u hu => ?_⟩
    rcases List.mem_append.mp hu with z | z
    · obtain ⟨c', h'⟩ := g4 u z
      exact ⟨c', alt_same (alt_same h' (sameTupK s35)) nt⟩
    · rw [List.mem_singleton.mp z]
      exact ⟨c, t, n, v1, xs, rfl, nt _ _ upd_same, nt _ _ ((s2.trans s35) _ _ hn), (tm_same t4 s5).keep nt⟩
  rintro σ G ⟨v3, v4, v5, rfl, s2, acc, g2, g3, g4⟩
  refine ⟨_, rfl, a, _, _, _, rfl, rfl, SqT.of (s2 _ _ ha), rfl, _, rfl, M, e, dm, kvs, rfl, tm_same he s2, hm.same s2, fun v1 H3 s3 t3 => ?_⟩
  refine ⟨_, rfl, L, acc, rfl, .inl ⟨SqL.of (s3 _ _ g2), fun t ht => ?_⟩⟩
  have s4 := same_new (o := .tup acc) ht
  refine ⟨small50 (by simp), fun r hr' => ?_⟩
  have s5 := same_new (o := .tup [.str "choose", v1, .ref t]) hr'
  refine q _ _ (s2.trans (s3.trans (s4.trans s5))) ⟨r, _, rfl, upd_same, .choose v1 t acc (tm_same t3 (s4.trans s5)) (s5 _ _ upd_same) (by rw [g3]; exact hl) fun u hu => ?_⟩
  obtain ⟨c', h'⟩ := g4 u hu
  exact ⟨c', alt_same h' (sameTupK (s3.trans (s4.trans s5)))⟩
theorem put_none {k : Nat} (T : Top K mg) : Keeps P w K mg base CX0 k d_put P_put (spPut 0) := by
  obtain ⟨fd, F, bd⟩ := T.f_put
  have no : ∀ vs H Q E, ¬ spPut 0 vs H Q E := fun vs H Q E h => by
    obtain ⟨M, v, dm, kvs, _, h1, _⟩ := h
    exact h1
  exact ⟨fd, ⟨fun vs H Q E h => absurd h (no vs H Q E), fun A outer s H args us vs Q E _ _ _ _ h => absurd h (no vs H Q E)⟩, bd, F.kp⟩
theorem ok_put (T : Top K mg) (d : Nat) : Keeps P w K mg base CX0 (2 * d + 1) d_put P_put (spPut d) := by
  induction d with
  | zero => exact put_none T
  | succ d ih =>
    have hW := ok_without (P := P) (w := w) (base := base) T
    exact ok_put_step T hW ih (ok_put_in_let T hW ih) (ok_put_in_choice T hW ih)
end
end W83

namespace W83
open PySem PySem.Spec PyProof.Rows L2
abbrev N_reckoned : List Str := ["op", "one", "other", "yes"]
abbrev P_reckoned : List Str := ["op", "one", "other"]
theorem sc_reckoned : FnScope N_reckoned P_reckoned d_reckoned.scope := ⟨rfl, rfl, rfl, by decide +kernel, rfl, by decide +kernel, by decide +kernel⟩

abbrev N_picked : List Str := ["value", "alternatives", "shape", "names", "body"]
abbrev P_picked : List Str := ["value", "alternatives"]
theorem sc_picked : FnScope N_picked P_picked d_picked.scope := ⟨rfl, rfl, rfl, by decide +kernel, rfl, by decide +kernel, by decide +kernel⟩

def NumV (H : Hp) (v : V) : Prop := ∃ a i, v = .ref a ∧ H a = some (.tup [.str "number", .int i]) ∧ 0 ≤ i ∧ i < big
def spReck : Sp := fun vs H Q _ => ∃ (op : Str) (i j : Int), vs = [.str op, .int i, .int j] ∧ 0 ≤ i ∧ i < big ∧ 0 ≤ j ∧ j < big ∧ ∀ (v : V) (H' : Hp), Same H H' → (NumV H' v ∨ ∀ M, Made M H' v) → Q v H'
def spPicked (d : Nat) : Sp := fun vs H Q _ => ∃ (M : Nat → Prop) (a p pa : Addr) (c : Str) (ms as : List V), vs = [.ref a, .ref pa] ∧ H a = some (.tup [.str "made", .str c, .ref p]) ∧ H p = some (.tup ms) ∧ ms.length ≤ 2 ∧ (∀ m ∈ ms, Mrk M H m) ∧
  H pa = some (.tup as) ∧ (∀ v ∈ as, ∃ c, Alt H (Tm M H d) c v) ∧ (∃ v ∈ as, Alt H (Tm M H d) c v) ∧ ∀ (v' : V) (H' : Hp), Same H H' → Tm M H' d v' → Q v' H'
section
variable {P : Program} {w : World} {K : PySem.W.Frag} {mg : Str → Option Value} {base : Heap}
theorem big_mod (i : Int) : 0 ≤ i % big ∧ i % big < big := ⟨Int.emod_nonneg _ (by decide), Int.emod_lt_of_pos _ (by decide)⟩
theorem ok_reckoned (T : Top K mg) : Keeps P w K mg base CX0 1 d_reckoned P_reckoned spReck := by
  obtain ⟨fd, F, bd⟩ := T.f_reckoned
  obtain ⟨tR, hROUND⟩ := T.i_ROUND
  refine keeps0 F bd sc_reckoned (fun vs H Q E h => ?_) (fun cdv A outer s H vs Q E hr h => ?_)
  · obtain ⟨op, i, j, rfl, _⟩ := h
    rfl
  obtain ⟨op, i, j, rfl, i0, i1, j0, j1, q⟩ := h
  refine ⟨_, (pss_cons (ps_if (pt_cmpR op_eq (pv 0) pe_str (nomark _))
    (pss_one (ps_ret (pe_tup (pa_cons pe_str (pa_cons (pe_op op_mod (pe_op op_add (pv 1) (pv 2)) (pe_glob (v := V.int 1000000000000000000) rfl hROUND ⟨_, rfl⟩)) pa_nil)))))
    pss_nil)
    (pss_cons (ps_if (pt_cmpR op_eq (pv 0) pe_str (nomark _))
    (pss_one (ps_ret (pe_tup (pa_cons pe_str (pa_cons (pe_op op_mod (pe_op op_sub (pv 1) (pv 2)) (pe_glob (v := V.int 1000000000000000000) rfl hROUND ⟨_, rfl⟩)) pa_nil)))))
    pss_nil)
    (pss_cons (ps_if (pt_cmpR op_eq (pv 0) pe_str (nomark _))
    (pss_one (ps_ret (pe_tup (pa_cons pe_str (pa_cons (pe_op op_mod (pe_op op_mul (pv 1) (pv 2)) (pe_glob (v := V.int 1000000000000000000) rfl hROUND ⟨_, rfl⟩)) pa_nil)))))
    pss_nil)
    (pss_cons (ps_if (pt_cmpR op_eq (pv 0) pe_str (nomark _))
    (pss_one (ps_set (i := 3) sc_reckoned.nd rfl (Or.inl rfl) (pe_cmpR op_lt (pv 1) (pv 2) (nomark _))))
    (pss_one (ps_set (i := 3) sc_reckoned.nd rfl (Or.inl rfl) (pe_cmpR op_eq (pv 1) (pv 2) (nomark _)))))
    (pss_cons (ps_if (pt_val (pv 3))
    (pss_one (ps_ret (pe_tup (pa_cons pe_str (pa_cons pe_str (pa_cons (pe_tup pa_nil) pa_nil))))))
    pss_nil)
    (pss_one (ps_ret (pe_tup (pa_cons pe_str (pa_cons pe_str (pa_cons (pe_tup pa_nil) pa_nil))))))))))), ?_⟩
  have num : ∀ z : Int, ([.str "number", .int (z % big)] : List V).length ≤ sizeLine ∧ ∀ p, H p = none → Q (.ref p) (upd H p (.tup [.str "number", .int (z % big)])) := fun z =>
    ⟨small50 (by simp), fun p hp => q _ _ (same_new hp) (.inl ⟨p, _, rfl, upd_same, (big_mod z).1, (big_mod z).2⟩)⟩
  have tail : ∀ b : Bool, tSeq (tIfS (tTest (tVar 3)) (tRet (tTup (tCons (tC (.str "made")) (tCons (tC (.str "Yes")) (tCons (tTup tNil) tNil))))) tNext) (tRet (tTup (tCons (tC (.str "made")) (tCons (tC (.str "No")) (tCons (tTup tNil) tNil)))))
      { nx := fun _ H' => Q .non H', rt := Q } [some (.str op), some (.int i), some (.int j), some (.bl b)] H := by
    intro b
    refine ⟨_, rfl, b, rfl, ifB (fun _ => ?_) (fun _ => ?_)⟩
    · refine ⟨small50 (by simp), fun p hp => ⟨small50 (by simp), fun r hr' => ?_⟩⟩
      exact q _ _ ((same_new hp).trans (same_new hr')) (.inr fun M => ⟨r, _, p, [], rfl, upd_same, by rw [upd_ne (ne_of_none upd_same hr')]; exact upd_same, by simp, (fun m hm => by cases hm), by decide +kernel⟩)
    · refine ⟨small50 (by simp), fun p hp => ⟨small50 (by simp), fun r hr' => ?_⟩⟩
      exact q _ _ ((same_new hp).trans (same_new hr')) (.inr fun M => ⟨r, _, p, [], rfl, upd_same, by rw [upd_ne (ne_of_none upd_same hr')]; exact upd_same, by simp, (fun m hm => by cases hm), by decide +kernel⟩)
  refine ⟨_, rfl, rfl, _, rfl, ifB (fun _ => ?_) (fun _ => ?_)⟩
  · exact ⟨_, rfl, _, rfl, _, _, rfl, rfl, _, _, rfl, rfl, (by decide : (0 : Int) < big), num _⟩
  refine ⟨_, rfl, rfl, _, rfl, ifB (fun _ => ?_) (fun _ => ?_)⟩
  · exact ⟨_, rfl, _, rfl, _, _, rfl, rfl, _, _, rfl, rfl, (by decide : (0 : Int) < big), num _⟩
  refine ⟨_, rfl, rfl, _, rfl, ifB (fun _ => ?_) (fun _ => ?_)⟩
  · exact ⟨_, rfl, _, rfl, _, _, rfl, rfl, .inl ⟨by have : big = 1000000000000000000 := rfl; omega, by have : big = 1000000000000000000 := rfl; omega⟩, _, _, rfl, rfl, (by decide : (0 : Int) < big), num _⟩
  refine ⟨_, rfl, rfl, _, rfl, ifB (fun _ => ?_) (fun _ => ?_)⟩
  · exact ⟨_, rfl, _, rfl, _, _, rfl, rfl, tail _⟩
  · exact ⟨_, rfl, _, rfl, rfl, tail _⟩
theorem ok_picked (T : Top K mg) (d : Nat) : Keeps P w K mg base CX0 (2 * d + 1 + 1) d_picked P_picked (spPicked d) := by
  obtain ⟨fd, F, bd⟩ := T.f_picked
  obtain ⟨_, G_put⟩ := ok_put (P := P) (w := w) (base := base) T d
  refine keeps0 F bd sc_picked (fun vs H Q E h => ?_) (fun cdv A outer s H vs Q E hr h => ?_)
  · obtain ⟨M, a, p, pa, c, ms, as, rfl, _⟩ := h
    rfl
  obtain ⟨M, a, p, pa, c, ms, as, rfl, ha, hp, hl, hms, hpa, hal, hex, q⟩ := h
  refine ⟨_, (pss_cons (ps_if (pt_cmpR op_ne (pe_ix ix_tup (pv 0) pe_int (fun _ _ => rfl)) pe_str (nomark _))
    (pss_one (ps_ret pe_non))
    pss_nil)
    (pss_cons (ps_for PassesOwn.never rfl (pi_tup (pv 1)) (pg_tup rfl (pgs_cons (pg_name (i := 2) sc_picked.nd rfl (Or.inl rfl)) (pgs_cons (pg_name (i := 3) sc_picked.nd rfl (Or.inl rfl)) (pgs_cons (pg_name (i := 4) sc_picked.nd rfl (Or.inl rfl)) pgs_nil))))
    (pss_one (ps_if (pt_cmpR op_eq (pv 2) (pe_ix ix_tup (pv 0) pe_int (fun _ _ => rfl)) (nomark _))
    (pss_one (ps_ret (pe_call G_put.ok (hr.mono (by omega)) rfl T.g_put G_put.kp G_put.bd .nil pass0 (pa_cons (pv 4) (pa_cons (pe_dictZip rfl (by rfl) T.z_dict (by rfl) T.z_zip (pa_cons (pv 3) (pa_cons (pe_ix ix_tup (pv 0) pe_int (fun _ _ => rfl)) pa_nil))) pa_nil)))))
    pss_nil)))
    (pss_one (ps_ret pe_non)))), ?_⟩
  refine ⟨_, rfl, a, _, _, _, rfl, rfl, SqT.of ha, rfl, rfl, _, rfl, ifF (by decide +kernel) ?_⟩
  refine ⟨_, rfl, pa, rfl, ⟨as, SqT.of hpa⟩, for_tup (K := K) (a := pa) (xs := as)
    (fun i σ G => ∃ v2 v3 v4, σ = [some (.ref a), some (.ref pa), v2, v3, v4] ∧ Same H G ∧ ∀ j v, j < i → as[j]? = some v → ¬ Alt H (Tm M H d) c v)
    ⟨_, _, _, rfl, Same.refl _, fun j v h => by omega⟩ (fun i σ G _ h => ?_) ?_ ?_⟩
  · obtain ⟨_, _, _, _, h, _⟩ := h
    exact sameT h (SqT.of hpa)
  · rintro i v σ G hi ⟨v2, v3, v4, rfl, s1, no⟩
    obtain ⟨c', b, n, f, xs, rfl, hb, hn, hf⟩ := hal v (List.mem_of_getElem? hi)
    refine ⟨b, _, rfl, SqT.of (s1 _ _ hb), rfl, _, _, rfl, _, _, rfl, _, _, rfl, rfl, ?_⟩
    refine ⟨_, rfl, _, rfl, a, _, _, _, rfl, rfl, SqT.of (s1 _ _ ha), rfl, rfl, _, rfl, ifB (fun e => ?_) (fun e => ?_)⟩
    · -- return put(body, dict(zip(names, value[2])))
      refine ⟨_, rfl, _, rfl, _, rfl, a, _, _, _, rfl, rfl, SqT.of (s1 _ _ ha), rfl, n, p, xs, ms, rfl, SqT.of (s1 _ _ hn), SqT.of (s1 _ _ hp), fun dd hdd => ?_⟩
      have s2 := same_new (o := .dK (mergeK [] (zipK xs ms))) hdd
      refine ⟨M, f, dd, mergeK [] (zipK xs ms), rfl, tm_same hf (s1.trans s2), ⟨upd_same, ?_, fun z hz => ?_⟩, fun v' H' s3 t3 => q _ _ (s1.trans (s2.trans s3)) t3⟩
      · have := length_mergeK (zipK xs ms) []
        rw [zipK_len] at this
        simp only [List.length_nil] at this
        omega
      · have inz : ∀ (xs : List Str) (ms : List V) (q : Key × V), q ∈ zipK xs ms → q.2 ∈ ms := by
          intro xs
          induction xs with
          | nil => intro ms q h; cases h
          | cons x xs ih =>
            intro ms q h
            cases ms with
            | nil => cases h
            | cons m ms =>
              rcases List.mem_cons.mp (show q ∈ (Sum.inr x, m) :: zipK xs ms from h) with e | e
              · rw [e]; exact List.mem_cons_self
              · exact List.mem_cons_of_mem _ (ih ms q e)
        rcases mergeK_mem hz with e | ⟨z', hz', e, _⟩
        · cases e
        · rw [← e]
          exact (hms _ (inz _ _ _ hz')).mono (fun _ z => z) (sameTupK (s1.trans s2))
    · refine ⟨_, _, _, rfl, s1, fun j u hj hu => ?_⟩
      by_cases ej : j < i
      · exact no j u ej hu
      · have : j = i := by omega
        subst this
        rw [hi] at hu
        cases hu
        rintro ⟨b', n', f', xs', e1, e2, _⟩
        cases e1
        rw [hb] at e2
        cases e2
        exact absurd e (by simp)
  · rintro σ G ⟨v2, v3, v4, rfl, s1, no⟩
    obtain ⟨v, hv, hal'⟩ := hex
    obtain ⟨j, hj, e⟩ := List.mem_iff_getElem.mp hv
    exact absurd hal' (no j v hj (by rw [List.getElem?_eq_getElem hj, e]))
end
end W83

namespace W83
open PySem PySem.Spec PyProof.Rows L2
/-! ### a machine as it lies in the heap -/
structure Ad where
  (m dx pa ra wa la ga ta : Addr)
structure S83 where
  hand : V
  depth : Int
  pile : List V
  rest : List V
  words : List Str
  steps : Nat
  cells : Int
  firsts : Int
  labels : List Str
  logv : List V
  log : List LRow
  ended : Str
  what : V
  things : List (Key × V)
def flds (A : Ad) (S : S83) : List (Str × V) := [("hand", S.hand), ("depth", .int S.depth), ("pile", .ref A.pa), ("rest", .ref A.ra), ("words", .ref A.wa), ("steps", .int ((S.steps : Nat) : Int)), ("cells", .int S.cells), ("firsts", .int S.firsts),
  ("labels", .ref A.la), ("log", .ref A.ga), ("ended", .str S.ended), ("what", S.what), ("things", .ref A.ta)]
section
variable {A : Ad} {S : S83}
theorem fl_len : (flds A S).length < 1000 := by
  show 13 < 1000
  decide
theorem fl_hand : (flds A S).lookup ("hand" : Str) = some S.hand := by rfl
theorem fl_depth : (flds A S).lookup ("depth" : Str) = some (.int S.depth) := by rfl
theorem fl_pile : (flds A S).lookup ("pile" : Str) = some (.ref A.pa) := by rfl
theorem fl_rest : (flds A S).lookup ("rest" : Str) = some (.ref A.ra) := by rfl
theorem fl_words : (flds A S).lookup ("words" : Str) = some (.ref A.wa) := by rfl
theorem fl_steps : (flds A S).lookup ("steps" : Str) = some (.int ((S.steps : Nat) : Int)) := by rfl
theorem fl_cells : (flds A S).lookup ("cells" : Str) = some (.int S.cells) := by rfl
theorem fl_firsts : (flds A S).lookup ("firsts" : Str) = some (.int S.firsts) := by rfl
theorem fl_labels : (flds A S).lookup ("labels" : Str) = some (.ref A.la) := by rfl
theorem fl_log : (flds A S).lookup ("log" : Str) = some (.ref A.ga) := by rfl
theorem fl_ended : (flds A S).lookup ("ended" : Str) = some (.str S.ended) := by rfl
theorem fl_what : (flds A S).lookup ("what" : Str) = some S.what := by rfl
theorem fl_things : (flds A S).lookup ("things" : Str) = some (.ref A.ta) := by rfl
theorem fl_note : (flds A S).lookup ("note" : Str) = none := by rfl
theorem fl_numbered : (flds A S).lookup ("numbered" : Str) = none := by rfl
theorem fl_born : (flds A S).lookup ("born" : Str) = none := by rfl
theorem fl_born_all : (flds A S).lookup ("born_all" : Str) = none := by rfl
theorem fl_entered : (flds A S).lookup ("entered" : Str) = none := by rfl
theorem fl_back : (flds A S).lookup ("back" : Str) = none := by rfl
theorem fl_ring : (flds A S).lookup ("ring" : Str) = none := by rfl
theorem fl_go : (flds A S).lookup ("go" : Str) = none := by rfl
theorem pf_hand (v : V) : putF "hand" v (flds A S) = flds A { S with hand := v } := by rfl
theorem pf_depth (i : Int) : putF "depth" (.int i) (flds A S) = flds A { S with depth := i } := by rfl
theorem pf_steps (i : Nat) : putF "steps" (.int ((i : Nat) : Int)) (flds A S) = flds A { S with steps := i } := by rfl
theorem pf_cells (i : Int) : putF "cells" (.int i) (flds A S) = flds A { S with cells := i } := by rfl
theorem pf_firsts (i : Int) : putF "firsts" (.int i) (flds A S) = flds A { S with firsts := i } := by rfl
theorem pf_ended (x : Str) : putF "ended" (.str x) (flds A S) = flds A { S with ended := x } := by rfl
theorem pf_what (v : V) : putF "what" v (flds A S) = flds A { S with what := v } := by rfl
end
end W83

namespace W83
open PySem PySem.Spec PyProof.Rows L2
/-! ### how a machine lies, and what its writings leave -/
def Ev.str : Ev → Str
  | .born => "born" | .again => "again" | .enter => "enter" | .back => "back"
abbrev rowV (r : LRow) : List V := [.str r.ev.str, .int ((r.n : Nat) : Int), .str r.l, .int ((r.s : Nat) : Int)]
def RowAt (H : Hp) (v : V) (r : LRow) : Prop := ∃ a, v = .ref a ∧ H a = some (.tup (rowV r))
def RowsAt (H : Hp) (vs : List V) (g : List LRow) : Prop := vs.length = g.length ∧ ∀ (i : Nat) (v : V) (r : LRow), vs[i]? = some v → g[i]? = some r → RowAt H v r
theorem RowAt.keep {H H' : Hp} {v : V} {r : LRow} (h : RowAt H v r) (k : TupK H H') : RowAt H' v r := by
  obtain ⟨a, e, ha⟩ := h
  exact ⟨a, e, k _ _ ha⟩
theorem RowsAt.keep {H H' : Hp} {vs : List V} {g : List LRow} (h : RowsAt H vs g) (k : TupK H H') : RowsAt H' vs g := ⟨h.1, fun i v r a b => (h.2 i v r a b).keep k⟩
theorem snoc2 {α β : Type} {P : α → β → Prop} {xs : List α} {ys : List β} {x : α} {y : β} (h : xs.length = ys.length ∧ ∀ (i : Nat) (v : α) (r : β), xs[i]? = some v → ys[i]? = some r → P v r) (hn : P x y) :
    (xs ++ [x]).length = (ys ++ [y]).length ∧ ∀ (i : Nat) (v : α) (r : β), (xs ++ [x])[i]? = some v → (ys ++ [y])[i]? = some r → P v r := by
  refine ⟨by simp [h.1], fun i v r a b => ?_⟩
  rcases snoc_at a with ⟨l, a⟩ | ⟨l, rfl⟩
  · rcases snoc_at b with ⟨_, b⟩ | ⟨l2, _⟩
    · exact h.2 i v r a b
    · have := h.1; omega
  · rcases snoc_at b with ⟨l2, b⟩ | ⟨_, rfl⟩
    · have := h.1; omega
    · exact hn
structure Lay (K : PySem.W.Frag) (A : Ad) (H : Hp) (S : S83) : Prop where
  ob : H A.m = some (.ins (He.ga K "Machine") A.dx (flds A S))
  pi : H A.pa = some (.lst S.pile)
  re : H A.ra = some (.lst S.rest)
  wo : H A.wa = some (.lst (S.words.map V.str))
  la : H A.la = some (.lst (S.labels.map V.str))
  lg : H A.ga = some (.lst S.logv)
  th : H A.ta = some (.dK S.things)
  ap : [A.pa, A.ra, A.wa, A.la, A.ga].Nodup
  rows : RowsAt H S.logv S.log
def Ad.all (A : Ad) : List Addr := [A.m, A.pa, A.ra, A.wa, A.la, A.ga, A.ta]
def Mv (A : Ad) (H H' : Hp) : Prop := ∀ b o, H b = some o → b ∉ A.all → H' b = some o
theorem Mv.refl {A : Ad} (H : Hp) : Mv A H H := fun _ _ h _ => h
theorem Mv.trans {A : Ad} {H H1 H2 : Hp} (a : Mv A H H1) (b : Mv A H1 H2) : Mv A H H2 := fun c o h n => b c o (a c o h n) n
theorem Mv.same {A : Ad} {H H' : Hp} (s : Same H H') : Mv A H H' := fun b o h _ => s b o h
theorem Mv.upd {A : Ad} {H : Hp} {a : Addr} {o : HO} (h : a ∈ A.all) : Mv A H (upd H a o) := fun b u e n => by
  rw [upd_ne (fun z => n (by rw [z]; exact h))]
  exact e
section
variable {K : PySem.W.Frag} {A : Ad} {H H' : Hp} {S S' : S83}
theorem Lay.all (L : Lay K A H S) {b : Addr} (h : b ∈ A.all) : (∃ xs, H b = some (.lst xs)) ∨ H b = some (.dK S.things) ∨ H b = some (.ins (He.ga K "Machine") A.dx (flds A S)) := by
  unfold Ad.all at h
  simp only [List.mem_cons, List.not_mem_nil, or_false] at h
  rcases h with h | h | h | h | h | h | h
  · rw [h]; exact .inr (.inr L.ob)
  · rw [h]; exact .inl ⟨_, L.pi⟩
  · rw [h]; exact .inl ⟨_, L.re⟩
  · rw [h]; exact .inl ⟨_, L.wo⟩
  · rw [h]; exact .inl ⟨_, L.la⟩
  · rw [h]; exact .inl ⟨_, L.lg⟩
  · rw [h]; exact .inr (.inl L.th)
theorem Lay.out (L : Lay K A H S) {b : Addr} {xs : List V} (h : H b = some (.tup xs)) : b ∉ A.all := fun z => by
  rcases L.all z with ⟨ys, e⟩ | e | e <;> · rw [h] at e; cases e
theorem Lay.outI (L : Lay K A H S) {b C dx : Addr} {fs : List (Str × V)} (l : fs.length ≤ 1) (h : H b = some (.ins C dx fs)) : b ∉ A.all := fun z => by
  rcases L.all z with ⟨ys, e⟩ | e | e
  · rw [h] at e; cases e
  · rw [h] at e; cases e
  · rw [h] at e
    have q : fs = flds A S := by
      have := Option.some.inj e
      injection this
    rw [q] at l
    exact absurd l (by show ¬ (13 ≤ 1); decide)
theorem Lay.outN (L : Lay K A H S) {b : Addr} (h : H b = none) : b ∉ A.all := fun z => by
  rcases L.all z with ⟨ys, e⟩ | e | e <;> · rw [h] at e; cases e
theorem Lay.tupK (L : Lay K A H S) (m : Mv A H H') : TupK H H' := fun b xs h => m b _ h (L.out h)
theorem Lay.ins (L : Lay K A H S) (m : Mv A H H') {b C dx : Addr} {fs : List (Str × V)} (l : fs.length ≤ 1) (h : H b = some (.ins C dx fs)) : H' b = some (.ins C dx fs) := m b _ h (L.outI l h)
theorem Lay.same (L : Lay K A H S) (s : Same H H') : Lay K A H' S :=
  ⟨s _ _ L.ob, s _ _ L.pi, s _ _ L.re, s _ _ L.wo, s _ _ L.la, s _ _ L.lg, s _ _ L.th, L.ap, L.rows.keep (sameTupK s)⟩
theorem Lay.m_pa (L : Lay K A H S) : A.m ≠ A.pa := fun z => by have := L.ob; rw [z, L.pi] at this; cases this
theorem Lay.m_ra (L : Lay K A H S) : A.m ≠ A.ra := fun z => by have := L.ob; rw [z, L.re] at this; cases this
theorem Lay.m_wa (L : Lay K A H S) : A.m ≠ A.wa := fun z => by have := L.ob; rw [z, L.wo] at this; cases this
theorem Lay.m_la (L : Lay K A H S) : A.m ≠ A.la := fun z => by have := L.ob; rw [z, L.la] at this; cases this
theorem Lay.m_ga (L : Lay K A H S) : A.m ≠ A.ga := fun z => by have := L.ob; rw [z, L.lg] at this; cases this
theorem Lay.m_ta (L : Lay K A H S) : A.m ≠ A.ta := fun z => by have := L.ob; rw [z, L.th] at this; cases this
theorem Lay.t_pa (L : Lay K A H S) : A.ta ≠ A.pa := fun z => by have := L.th; rw [z, L.pi] at this; cases this
theorem Lay.t_ra (L : Lay K A H S) : A.ta ≠ A.ra := fun z => by have := L.th; rw [z, L.re] at this; cases this
theorem Lay.t_wa (L : Lay K A H S) : A.ta ≠ A.wa := fun z => by have := L.th; rw [z, L.wo] at this; cases this
theorem Lay.t_la (L : Lay K A H S) : A.ta ≠ A.la := fun z => by have := L.th; rw [z, L.la] at this; cases this
theorem Lay.t_ga (L : Lay K A H S) : A.ta ≠ A.ga := fun z => by have := L.th; rw [z, L.lg] at this; cases this
/-- a field -/
theorem Lay.fld (L : Lay K A H S) (S' : S83) (e1 : S'.pile = S.pile := by rfl) (e2 : S'.rest = S.rest := by rfl) (e3 : S'.words = S.words := by rfl) (e4 : S'.labels = S.labels := by rfl) (e5 : S'.logv = S.logv := by rfl) (e6 : S'.things = S.things := by rfl) (e7 : S'.log = S.log := by rfl) :
    Lay K A (upd H A.m (.ins (He.ga K "Machine") A.dx (flds A S'))) S' := by
  refine ⟨upd_same, ?_, ?_, ?_, ?_, ?_, ?_, L.ap, ?_⟩
  · rw [upd_ne L.m_pa.symm, e1]; exact L.pi
  · rw [upd_ne L.m_ra.symm, e2]; exact L.re
  · rw [upd_ne L.m_wa.symm, e3]; exact L.wo
  · rw [upd_ne L.m_la.symm, e4]; exact L.la
  · rw [upd_ne L.m_ga.symm, e5]; exact L.lg
  · rw [upd_ne L.m_ta.symm, e6]; exact L.th
  · rw [e5, e7]
    exact L.rows.keep (L.tupK (Mv.upd (by simp [Ad.all])))
theorem Lay.nd (L : Lay K A H S) : A.pa ≠ A.ra ∧ A.pa ≠ A.wa ∧ A.pa ≠ A.la ∧ A.pa ≠ A.ga ∧ A.ra ≠ A.wa ∧ A.ra ≠ A.la ∧ A.ra ≠ A.ga ∧ A.wa ≠ A.la ∧ A.wa ≠ A.ga ∧ A.la ≠ A.ga := by
  have := L.ap
  simp only [List.nodup_cons, List.mem_cons, List.not_mem_nil, or_false, not_or] at this
  obtain ⟨⟨a, b, c, d⟩, ⟨e, f, g⟩, ⟨h, i⟩, j, _⟩ := this
  exact ⟨a, b, c, d, e, f, g, h, i, j⟩
theorem Lay.pile (L : Lay K A H S) (p : List V) : Lay K A (upd H A.pa (.lst p)) { S with pile := p } := by
  obtain ⟨a, b, c, d, e, f, g, h, i, j⟩ := L.nd
  exact ⟨by rw [upd_ne L.m_pa]; exact L.ob, upd_same, by rw [upd_ne a.symm]; exact L.re, by rw [upd_ne b.symm]; exact L.wo, by rw [upd_ne c.symm]; exact L.la, by rw [upd_ne d.symm]; exact L.lg, by rw [upd_ne L.t_pa]; exact L.th, L.ap, L.rows.keep (L.tupK (Mv.upd (by simp [Ad.all])))⟩
theorem Lay.rest (L : Lay K A H S) (p : List V) : Lay K A (upd H A.ra (.lst p)) { S with rest := p } := by
  obtain ⟨a, b, c, d, e, f, g, h, i, j⟩ := L.nd
  exact ⟨by rw [upd_ne L.m_ra]; exact L.ob, by rw [upd_ne a]; exact L.pi, upd_same, by rw [upd_ne e.symm]; exact L.wo, by rw [upd_ne f.symm]; exact L.la, by rw [upd_ne g.symm]; exact L.lg, by rw [upd_ne L.t_ra]; exact L.th, L.ap, L.rows.keep (L.tupK (Mv.upd (by simp [Ad.all])))⟩
theorem Lay.word (L : Lay K A H S) (x : Str) : Lay K A (upd H A.wa (.lst (S.words.map V.str ++ [.str x]))) { S with words := S.words ++ [x] } := by
  obtain ⟨a, b, c, d, e, f, g, h, i, j⟩ := L.nd
  exact ⟨by rw [upd_ne L.m_wa]; exact L.ob, by rw [upd_ne b]; exact L.pi, by rw [upd_ne e]; exact L.re, by rw [upd_same, List.map_append]; rfl, by rw [upd_ne h.symm]; exact L.la, by rw [upd_ne i.symm]; exact L.lg, by rw [upd_ne L.t_wa]; exact L.th, L.ap, L.rows.keep (L.tupK (Mv.upd (by simp [Ad.all])))⟩
theorem Lay.label (L : Lay K A H S) (x : Str) : Lay K A (upd H A.la (.lst (S.labels.map V.str ++ [.str x]))) { S with labels := S.labels ++ [x] } := by
  obtain ⟨a, b, c, d, e, f, g, h, i, j⟩ := L.nd
  exact ⟨by rw [upd_ne L.m_la]; exact L.ob, by rw [upd_ne c]; exact L.pi, by rw [upd_ne f]; exact L.re, by rw [upd_ne h]; exact L.wo, by rw [upd_same, List.map_append]; rfl, by rw [upd_ne j.symm]; exact L.lg, by rw [upd_ne L.t_la]; exact L.th, L.ap, L.rows.keep (L.tupK (Mv.upd (by simp [Ad.all])))⟩
theorem Lay.log1 (L : Lay K A H S) {v : V} {r : LRow} (h : RowAt H v r) : Lay K A (upd H A.ga (.lst (S.logv ++ [v]))) { S with logv := S.logv ++ [v], log := S.log ++ [r] } := by
  obtain ⟨a, b, c, d, e, f, g, i, j, k⟩ := L.nd
  have t := L.tupK (H' := upd H A.ga (.lst (S.logv ++ [v]))) (Mv.upd (by simp [Ad.all]))
  exact ⟨by rw [upd_ne L.m_ga]; exact L.ob, by rw [upd_ne d]; exact L.pi, by rw [upd_ne g]; exact L.re, by rw [upd_ne j]; exact L.wo, by rw [upd_ne k]; exact L.la, upd_same, by rw [upd_ne L.t_ga]; exact L.th, L.ap, snoc2 (L.rows.keep t) (h.keep t)⟩
theorem Lay.thing (L : Lay K A H S) (kvs : List (Key × V)) : Lay K A (upd H A.ta (.dK kvs)) { S with things := kvs } :=
  ⟨by rw [upd_ne L.m_ta]; exact L.ob, by rw [upd_ne L.t_pa.symm]; exact L.pi, by rw [upd_ne L.t_ra.symm]; exact L.re, by rw [upd_ne L.t_wa.symm]; exact L.wo, by rw [upd_ne L.t_la.symm]; exact L.la, by rw [upd_ne L.t_ga.symm]; exact L.lg, upd_same, L.ap, L.rows.keep (L.tupK (Mv.upd (by simp [Ad.all])))⟩
end
theorem mvm {A : Ad} {H : Hp} {o : HO} : Mv A H (upd H A.m o) := Mv.upd (by simp [Ad.all])
theorem mvp {A : Ad} {H : Hp} {o : HO} : Mv A H (upd H A.pa o) := Mv.upd (by simp [Ad.all])
theorem mvr {A : Ad} {H : Hp} {o : HO} : Mv A H (upd H A.ra o) := Mv.upd (by simp [Ad.all])
theorem mvw {A : Ad} {H : Hp} {o : HO} : Mv A H (upd H A.wa o) := Mv.upd (by simp [Ad.all])
theorem mvl {A : Ad} {H : Hp} {o : HO} : Mv A H (upd H A.la o) := Mv.upd (by simp [Ad.all])
theorem mvg {A : Ad} {H : Hp} {o : HO} : Mv A H (upd H A.ga o) := Mv.upd (by simp [Ad.all])
theorem mvt {A : Ad} {H : Hp} {o : HO} : Mv A H (upd H A.ta o) := Mv.upd (by simp [Ad.all])
theorem mvn {A : Ad} {H : Hp} {a : Addr} {o : HO} (h : H a = none) : Mv A H (upd H a o) := Mv.same (same_new h)
theorem small9 {n : Nat} (h : n ≤ 100000) : n < sizeLine := by
  rw [sizeLine_eq]
  omega
end W83

namespace W83
open PySem PySem.Spec PyProof.Rows L2
abbrev N_Runner_note : List Str := ["self", "event", "number"]
abbrev P_Runner_note : List Str := ["self", "event", "number"]
theorem sc_Runner_note : FnScope N_Runner_note P_Runner_note d_Runner_note.scope := ⟨rfl, rfl, rfl, by decide +kernel, rfl, by decide +kernel, by decide +kernel⟩

abbrev N_Runner_numbered : List Str := ["self", "label", "number"]
abbrev P_Runner_numbered : List Str := ["self", "label"]
theorem sc_Runner_numbered : FnScope N_Runner_numbered P_Runner_numbered d_Runner_numbered.scope := ⟨rfl, rfl, rfl, by decide +kernel, rfl, by decide +kernel, by decide +kernel⟩

abbrev N_Waiting_init : List Str := ["self", "text"]
abbrev P_Waiting_init : List Str := ["self", "text"]
theorem sc_Waiting_init : FnScope N_Waiting_init P_Waiting_init d_Waiting_init.scope := ⟨rfl, rfl, rfl, by decide +kernel, rfl, by decide +kernel, by decide +kernel⟩

abbrev N_Ready_init : List Str := ["self", "value"]
abbrev P_Ready_init : List Str := ["self", "value"]
theorem sc_Ready_init : FnScope N_Ready_init P_Ready_init d_Ready_init.scope := ⟨rfl, rfl, rfl, by decide +kernel, rfl, by decide +kernel, by decide +kernel⟩

abbrev N_Machine_born : List Str := ["self", "label", "text", "number"]
abbrev P_Machine_born : List Str := ["self", "label", "text"]
theorem sc_Machine_born : FnScope N_Machine_born P_Machine_born d_Machine_born.scope := ⟨rfl, rfl, rfl, by decide +kernel, rfl, by decide +kernel, by decide +kernel⟩

abbrev N_Machine_back : List Str := ["self", "number"]
abbrev P_Machine_back : List Str := ["self", "number"]
theorem sc_Machine_back : FnScope N_Machine_back P_Machine_back d_Machine_back.scope := ⟨rfl, rfl, rfl, by decide +kernel, rfl, by decide +kernel, by decide +kernel⟩

def S83.noted (S : S83) (v : V) (e : Ev) (k : Nat) (l : Str) : S83 := { S with logv := S.logv ++ [v], log := S.log ++ [⟨e, k, l, S.steps⟩] }
def spNote (K : PySem.W.Frag) : Sp := fun vs H Q _ => ∃ (A : Ad) (S : S83) (e : Ev) (k : Nat) (l : Str), vs = [.ref A.m, .str e.str, .int ((k : Nat) : Int)] ∧ Lay K A H S ∧ S.labels[k]? = some l ∧ S.log.length ≤ 50000 ∧
  ∀ (v : V) (H' : Hp), Mv A H H' → Lay K A H' (S.noted v e k l) → Q .non H'
def S83.numb (S : S83) (v : V) (l : Str) : S83 := { S with labels := S.labels ++ [l], logv := S.logv ++ [v], log := S.log ++ [⟨.born, S.labels.length, l, S.steps⟩] }
def spNumbered (K : PySem.W.Frag) : Sp := fun vs H Q _ => ∃ (A : Ad) (S : S83) (l : Str), vs = [.ref A.m, .str l] ∧ Lay K A H S ∧ S.log.length ≤ 50000 ∧ S.labels.length ≤ 50000 ∧
  ∀ (v : V) (H' : Hp), Mv A H H' → Lay K A H' (S.numb v l) → Q (.int ((S.labels.length : Nat) : Int)) H'
def spNode1 (C : Addr) (f : Str) : Sp := fun vs H Q _ => ∃ (x dx : Addr) (v : V), vs = [.ref x, v] ∧ H x = some (.ins C dx []) ∧ Q .non (upd H x (.ins C dx [(f, v)]))
def S83.bornS (S : S83) (v : V) (l : Str) (x : Addr) : S83 := { S.numb v l with things := putK S.things (.inl ((S.labels.length : Nat) : Int)) (.ref x) }
def spBorn (K : PySem.W.Frag) : Sp := fun vs H Q _ => ∃ (A : Ad) (S : S83) (l : Str) (y : V), vs = [.ref A.m, .str l, y] ∧ Lay K A H S ∧ S.log.length ≤ 50000 ∧ S.labels.length ≤ 50000 ∧ S.things.length ≤ 50000 ∧
  ∀ (v : V) (x dx t : Addr) (H' : Hp), Mv A H H' → Lay K A H' (S.bornS v l x) → H' x = some (.ins (He.ga K "Waiting") dx [("text", y)]) → H' t = some (.tup [.str "at", .int ((S.labels.length : Nat) : Int)]) → Q (.ref t) H'
def S83.backS (S : S83) (v : V) (k : Nat) (l : Str) (x : Addr) : S83 := { S.noted v .back k l with things := putK S.things (.inl ((k : Nat) : Int)) (.ref x) }
def spBack (K : PySem.W.Frag) : Sp := fun vs H Q _ => ∃ (A : Ad) (S : S83) (k : Nat) (l : Str), vs = [.ref A.m, .int ((k : Nat) : Int)] ∧ Lay K A H S ∧ S.labels[k]? = some l ∧ S.log.length ≤ 50000 ∧ S.things.length ≤ 50000 ∧
  ∀ (v : V) (x dx : Addr) (H' : Hp), Mv A H H' → Lay K A H' (S.backS v k l x) → H' x = some (.ins (He.ga K "Ready") dx [("value", S.hand)]) → Q .non H'
section
variable {P : Program} {w : World} {K : PySem.W.Frag} {mg : Str → Option Value} {base : Heap}
theorem logv_len {A : Ad} {H : Hp} {S : S83} (L : Lay K A H S) : S.logv.length = S.log.length := L.rows.1
theorem ok_note (T : Top K mg) : Keeps P w K mg base CX0 1 d_Runner_note P_Runner_note (spNote K) := by
  obtain ⟨fd, F, bd⟩ := T.f_Runner_note
  refine keeps0 F bd sc_Runner_note (fun vs H Q E h => ?_) (fun cdv AA outer s H vs Q E hr h => ?_)
  · obtain ⟨A, S, e, k, l, rfl, _⟩ := h
    rfl
  obtain ⟨A, S, e, k, l, rfl, L, hl, hn, q⟩ := h
  refine ⟨_, (pss_one (ps_expr (pe_bm PySem.F.plainAttrs_list PySem.F.slot_list_append PySem.F.type_list_append mt_append (pe_fld (pv 0) rfl) (pa_cons (pe_tup (pa_cons (pv 1) (pa_cons (pv 2) (pa_cons (pe_ix ix_list (pe_fld (pv 0) rfl) (pv 2) (fun _ _ => rfl)) (pa_cons (pe_fld (pv 0) rfl) pa_nil))))) pa_nil)))), ?_⟩
  refine ⟨_, rfl, A.m, _, _, _, _, rfl, L.ob, T.c_Machine, T.n_Machine_log, fl_log, .inl ⟨rfl, _, SqL.of L.lg⟩, ?_⟩
  refine ⟨_, rfl, _, rfl, ⟨_, rfl, A.m, _, _, _, _, rfl, L.ob, T.c_Machine, T.n_Machine_labels, fl_labels, _, rfl, A.la, _, _, _, rfl, rfl, SqL.of L.la, at_get (by rw [List.getElem?_map, hl]; rfl), _, rfl, A.m, _, _, _, _, rfl, L.ob, T.c_Machine, T.n_Machine_steps, fl_steps, small50 (by simp), fun p hp => ?_⟩⟩
  have L1 := L.same (same_new (o := .tup [.str e.str, .int ((k : Nat) : Int), .str l, .int ((S.steps : Nat) : Int)]) hp)
  refine ⟨A.ga, _, _, rfl, rfl, L1.lg, small9 (by rw [logv_len L]; omega), ?_⟩
  exact q _ _ ((mvn hp).trans mvg) (L1.log1 (r := ⟨e, k, l, S.steps⟩) ⟨p, rfl, upd_same⟩)
theorem ok_numbered (T : Top K mg) : Keeps P w K mg base CX0 2 d_Runner_numbered P_Runner_numbered (spNumbered K) := by
  obtain ⟨fd, F, bd⟩ := T.f_Runner_numbered
  obtain ⟨_, G_Runner_note⟩ := ok_note (P := P) (w := w) (base := base) T
  refine keeps0 F bd sc_Runner_numbered (fun vs H Q E h => ?_) (fun cdv AA outer s H vs Q E hr h => ?_)
  · obtain ⟨A, S, l, rfl, _⟩ := h
    rfl
  obtain ⟨A, S, l, rfl, L, hn, hb, q⟩ := h
  refine ⟨_, (pss_cons (ps_set (i := 2) sc_Runner_numbered.nd rfl (Or.inl rfl) (pe_callB call_len_seq (by rfl) T.z_len PySem.boot_len (pa_cons (pe_fld (pv 0) rfl) pa_nil)))
    (pss_cons (ps_expr (pe_bm PySem.F.plainAttrs_list PySem.F.slot_list_append PySem.F.type_list_append mt_append (pe_fld (pv 0) rfl) (pa_cons (pv 1) pa_nil)))
    (pss_cons (ps_expr (pe_meth (pv 0) T.c_Machine T.m_note G_Runner_note.ok (hr.mono (by decide)) G_Runner_note.bd .nil pass0 (pa_cons pe_str (pa_cons (pv 2) pa_nil))))
    (pss_one (ps_ret (pv 2)))))), ?_⟩
  refine ⟨_, rfl, A.m, _, _, _, _, rfl, L.ob, T.c_Machine, T.n_Machine_labels, fl_labels, A.la, _, rfl, .inl (SqL.of L.la), ?_⟩
  refine ⟨_, rfl, A.m, _, _, _, _, rfl, L.ob, T.c_Machine, T.n_Machine_labels, fl_labels, .inl ⟨rfl, _, SqL.of L.la⟩, _, rfl, A.la, _, _, rfl, rfl, L.la, small9 (by rw [List.length_map]; omega), ?_⟩
  have L1 := L.label l
  refine ⟨_, rfl, A.m, _, _, rfl, L1.ob, fl_note, _, rfl, ?_⟩
  refine ⟨A, _, .born, S.labels.length, l, by rw [List.length_map]; rfl, L1, by simp, hn, fun v H' m L2 => ?_⟩
  refine ⟨_, rfl, ?_⟩
  rw [List.length_map]
  exact q v H' (mvl.trans m) L2
theorem ok_waiting (T : Top K mg) : Keeps P w K mg base CX0 1 d_Waiting_init P_Waiting_init (spNode1 (He.ga K "Waiting") "text") := by
  obtain ⟨fd, F, bd⟩ := T.f_Waiting_init
  refine keeps0 F bd sc_Waiting_init (fun vs H Q E h => ?_) (fun cdv AA outer s H vs Q E hr h => ?_)
  · obtain ⟨x, dx, v, rfl, _⟩ := h
    rfl
  obtain ⟨x, dx, v, rfl, hx, q⟩ := h
  refine ⟨_, (pss_one (ps_fld (pv 0) (pv 1) rfl)), ?_⟩
  exact ⟨_, rfl, _, rfl, x, _, _, _, rfl, hx, T.c_Waiting, T.n_Waiting_text, by decide, q⟩
theorem ok_ready (T : Top K mg) : Keeps P w K mg base CX0 1 d_Ready_init P_Ready_init (spNode1 (He.ga K "Ready") "value") := by
  obtain ⟨fd, F, bd⟩ := T.f_Ready_init
  refine keeps0 F bd sc_Ready_init (fun vs H Q E h => ?_) (fun cdv AA outer s H vs Q E hr h => ?_)
  · obtain ⟨x, dx, v, rfl, _⟩ := h
    rfl
  obtain ⟨x, dx, v, rfl, hx, q⟩ := h
  refine ⟨_, (pss_one (ps_fld (pv 0) (pv 1) rfl)), ?_⟩
  exact ⟨_, rfl, _, rfl, x, _, _, _, rfl, hx, T.c_Ready, T.n_Ready_value, by decide, q⟩
theorem mv_make {A : Ad} {H : Hp} {x dx C : Addr} {f : Str} {v : V} (hx : H x = none) (hd : H dx = none) (ne : dx ≠ x) : Same H (upd (upd (upd H dx (.own x)) x (.ins C dx [])) x (.ins C dx [(f, v)])) := fun b o e => by
  rw [upd_ne (ne_of_none e hx), upd_ne (ne_of_none e hx), upd_ne (ne_of_none e hd)]
  exact e
theorem ok_born (T : Top K mg) : Keeps P w K mg base CX0 3 d_Machine_born P_Machine_born (spBorn K) := by
  obtain ⟨fd, F, bd⟩ := T.f_Machine_born
  obtain ⟨_, G_Runner_numbered⟩ := ok_numbered (P := P) (w := w) (base := base) T
  obtain ⟨_, G_Waiting_init⟩ := ok_waiting (P := P) (w := w) (base := base) T
  refine keeps0 F bd sc_Machine_born (fun vs H Q E h => ?_) (fun cdv AA outer s H vs Q E hr h => ?_)
  · obtain ⟨A, S, l, y, rfl, _⟩ := h
    rfl
  obtain ⟨A, S, l, y, rfl, L, hn, hb, ht, q⟩ := h
  refine ⟨_, (pss_cons (ps_set (i := 3) sc_Machine_born.nd rfl (Or.inl rfl) (pe_meth (pv 0) T.c_Machine T.m_numbered G_Runner_numbered.ok (hr.mono (by decide)) G_Runner_numbered.bd .nil pass0 (pa_cons (pv 1) pa_nil)))
    (pss_cons (ps_dput (hu_of hr) (pe_fld (pv 0) rfl) (pv 3) (pe_make T.k_Waiting G_Waiting_init.ok (hr.mono (by decide)) rfl T.g_Waiting G_Waiting_init.bd .nil pass0 (pa_cons (pv 2) pa_nil)) rfl)
    (pss_one (ps_ret (pe_tup (pa_cons pe_str (pa_cons (pv 3) pa_nil))))))), ?_⟩
  refine ⟨_, rfl, A.m, _, _, rfl, L.ob, fl_numbered, _, rfl, ?_⟩
  refine ⟨A, S, l, rfl, L, hn, hb, fun v H1 m1 L1 => ?_⟩
  refine ⟨_, rfl, fun x dx hx hdx hne => ?_⟩
  refine ⟨x, dx, y, rfl, upd_same, rfl, ?_⟩
  have sm := mv_make (A := A) (C := He.ga K "Waiting") (f := "text") (v := y) hx hdx hne
  have L2 := L1.same sm
  refine ⟨_, rfl, A.m, _, _, _, _, rfl, L2.ob, T.c_Machine, T.n_Machine_things, fl_things, _, rfl, A.ta, _, rfl, DPut.k (k := .inl ((S.labels.length : Nat) : Int)) L2.th (small9 (by show S.things.length ≤ 100000; omega)), ?_⟩
  have L3 := L2.thing (putK S.things (.inl ((S.labels.length : Nat) : Int)) (.ref x))
  refine ⟨_, rfl, small50 (by simp), fun t htt => ?_⟩
  have L4 := L3.same (same_new (o := .tup [.str "at", .int ((S.labels.length : Nat) : Int)]) htt)
  have mm : Mv A _ _ := (mvt (A := A)).trans (mvn (A := A) (o := .tup [.str "at", .int ((S.labels.length : Nat) : Int)]) htt)
  refine q v x dx t _ (m1.trans ((Mv.same sm).trans mm)) L4 (L2.ins mm (by simp) upd_same) upd_same
theorem ok_back (T : Top K mg) : Keeps P w K mg base CX0 3 d_Machine_back P_Machine_back (spBack K) := by
  obtain ⟨fd, F, bd⟩ := T.f_Machine_back
  obtain ⟨_, G_Runner_note⟩ := ok_note (P := P) (w := w) (base := base) T
  obtain ⟨_, G_Ready_init⟩ := ok_ready (P := P) (w := w) (base := base) T
  refine keeps0 F bd sc_Machine_back (fun vs H Q E h => ?_) (fun cdv AA outer s H vs Q E hr h => ?_)
  · obtain ⟨A, S, k, l, rfl, _⟩ := h
    rfl
  obtain ⟨A, S, k, l, rfl, L, hl, hn, ht, q⟩ := h
  refine ⟨_, (pss_cons (ps_expr (pe_meth (pv 0) T.c_Machine T.m_note G_Runner_note.ok (hr.mono (by decide)) G_Runner_note.bd .nil pass0 (pa_cons pe_str (pa_cons (pv 1) pa_nil))))
    (pss_one (ps_dput (hu_of hr) (pe_fld (pv 0) rfl) (pv 1) (pe_make T.k_Ready G_Ready_init.ok (hr.mono (by decide)) rfl T.g_Ready G_Ready_init.bd .nil pass0 (pa_cons (pe_fld (pv 0) rfl) pa_nil)) rfl))), ?_⟩
  refine ⟨_, rfl, A.m, _, _, rfl, L.ob, fl_note, _, rfl, ?_⟩
  refine ⟨A, S, .back, k, l, rfl, L, hl, hn, fun v H1 m1 L1 => ?_⟩
  refine ⟨_, rfl, A.m, _, _, _, _, rfl, L1.ob, T.c_Machine, T.n_Machine_hand, fl_hand, fun x dx hx hdx hne => ?_⟩
  refine ⟨x, dx, S.hand, rfl, upd_same, rfl, ?_⟩
  have sm := mv_make (A := A) (C := He.ga K "Ready") (f := "value") (v := S.hand) hx hdx hne
  have L2 := L1.same sm
  refine ⟨_, rfl, A.m, _, _, _, _, rfl, L2.ob, T.c_Machine, T.n_Machine_things, fl_things, _, rfl, A.ta, _, rfl, DPut.k (k := .inl ((k : Nat) : Int)) L2.th (small9 (by show S.things.length ≤ 100000; omega)), ?_⟩
  have L3 := L2.thing (putK S.things (.inl ((k : Nat) : Int)) (.ref x))
  exact q v x dx _ (m1.trans ((Mv.same sm).trans mvt)) L3 (L2.ins mvt (by simp) upd_same)
end
end W83

namespace W83
open PySem PySem.Spec PyProof.Rows L2
/-! ### the machine's state, told plainly -/
inductive ValS (M : Nat → Prop) (H : Hp) (R : V → Prop) : List V → Prop
  | number (i : Int) (h0 : 0 ≤ i) (h1 : i < big) : ValS M H R [.str "number", .int i]
  | fun_ (x : Str) (b : V) (hb : R b) : ValS M H R [.str "fun", .str x, b]
  | made (c : Str) (p : Addr) (ms : List V) (hp : H p = some (.tup ms)) (hl : ms.length ≤ 2) (hm : ∀ m ∈ ms, Mrk M H m) (hc : c.length ≤ 10) : ValS M H R [.str "made", .str c, .ref p]
def Val (M : Nat → Prop) (D : Nat) (H : Hp) (v : V) : Prop := ∃ a xs, v = .ref a ∧ H a = some (.tup xs) ∧ ValS M H (Tm M H D) xs
inductive NvS (M : Nat → Prop) (H : Hp) (R : V → Prop) : List V → Prop
  | at_ (k : Nat) (hk : M k) : NvS M H R [.str "at", .int ((k : Nat) : Int)]
  | name (x : Str) : NvS M H R [.str "name", .str x]
  | does (op : Str) (a b : V) (ha : R a) (hb : R b) : NvS M H R [.str "does", .str op, a, b]
  | call (f a : V) (hf : R f) (ha : R a) : NvS M H R [.str "call", f, a]
  | let_ (p : Addr) (prs : List V) (b : V) (hp : H p = some (.tup prs)) (hl : prs.length ≤ 6) (he : ∀ v ∈ prs, Prr H R v) (hb : R b) : NvS M H R [.str "let", .ref p, b]
  | shape (c : Str) (p : Addr) (ps : List V) (hp : H p = some (.tup ps)) (hl : ps.length ≤ 2) (he : ∀ v ∈ ps, R v) (hc : c.length ≤ 10) : NvS M H R [.str "shape", .str c, .ref p]
  | choose (e : V) (p : Addr) (as : List V) (he : R e) (hp : H p = some (.tup as)) (hl : as.length ≤ 6) (ha : ∀ v ∈ as, ∃ c, Alt H R c v) : NvS M H R [.str "choose", e, .ref p]
  | first (a b : V) (ha : R a) (hb : R b) : NvS M H R [.str "first", a, b]
  | stop (x : Str) : NvS M H R [.str "stop", .str x]
def Nv (M : Nat → Prop) (D : Nat) (H : Hp) (v : V) : Prop := ∃ a xs, v = .ref a ∧ H a = some (.tup xs) ∧ NvS M H (Tm M H D) xs
theorem Tm.two {M : Nat → Prop} {H : Hp} {D : Nat} {v : V} (h : Tm M H D v) : Nv M D H v ∨ Val M D H v := by
  cases D with
  | zero => exact h.elim
  | succ D =>
    obtain ⟨a, xs, e, ha, hs⟩ := h
    have hs := hs.mono (M' := M) (H' := H) (R' := Tm M H (D + 1)) (fun _ z => z) (TupK.refl _) fun v hv => hv.up (Nat.le_succ _)
    cases hs with
    | at_ k hk => exact .inl ⟨a, _, e, ha, .at_ k hk⟩
    | name x => exact .inl ⟨a, _, e, ha, .name x⟩
    | number i h0 h1 => exact .inr ⟨a, _, e, ha, .number i h0 h1⟩
    | does op p q hp hq => exact .inl ⟨a, _, e, ha, .does op p q hp hq⟩
    | fun_ x b hb => exact .inr ⟨a, _, e, ha, .fun_ x b hb⟩
    | call f b hf hb => exact .inl ⟨a, _, e, ha, .call f b hf hb⟩
    | let_ p prs b hp hl he hb => exact .inl ⟨a, _, e, ha, .let_ p prs b hp hl he hb⟩
    | shape c p ps hp hl he hc => exact .inl ⟨a, _, e, ha, .shape c p ps hp hl he hc⟩
    | choose f p as he hp hl hal => exact .inl ⟨a, _, e, ha, .choose f p as he hp hl hal⟩
    | first p q hp hq => exact .inl ⟨a, _, e, ha, .first p q hp hq⟩
    | stop x => exact .inl ⟨a, _, e, ha, .stop x⟩
theorem Made.val {M : Nat → Prop} {H : Hp} {D : Nat} {v : V} (h : Made M H v) : Val M D H v := by
  obtain ⟨a, c, p, ms, e, h1, h2, h3, h4, h5⟩ := h
  exact ⟨a, _, e, h1, .made c p ms h2 h3 h4 h5⟩
theorem NumV.val {M : Nat → Prop} {H : Hp} {D : Nat} {v : V} (h : NumV H v) : Val M D H v := by
  obtain ⟨a, i, e, h1, h2, h3⟩ := h
  exact ⟨a, _, e, h1, .number i h2 h3⟩
theorem ValS.mono {M M' : Nat → Prop} {H H' : Hp} {R R' : V → Prop} {xs : List V} (hM : ∀ k, M k → M' k) (hH : TupK H H') (hR : ∀ v, R v → R' v) (h : ValS M H R xs) : ValS M' H' R' xs := by
  cases h with
  | number i h0 h1 => exact .number i h0 h1
  | fun_ x b hb => exact .fun_ x b (hR _ hb)
  | made c p ms hp hl hm hc => exact .made c p ms (hH _ _ hp) hl (fun m z => (hm m z).mono hM hH) hc
theorem Val.mono {M M' : Nat → Prop} {H H' : Hp} {D : Nat} {v : V} (hM : ∀ k, M k → M' k) (hH : TupK H H') (h : Val M D H v) : Val M' D H' v := by
  obtain ⟨a, xs, e, ha, hs⟩ := h
  exact ⟨a, xs, e, hH _ _ ha, hs.mono hM hH fun v hv => hv.mono hM hH (Nat.le_refl _)⟩
theorem NvS.mono {M M' : Nat → Prop} {H H' : Hp} {R R' : V → Prop} {xs : List V} (hM : ∀ k, M k → M' k) (hH : TupK H H') (hR : ∀ v, R v → R' v) (h : NvS M H R xs) : NvS M' H' R' xs := by
  cases h with
  | at_ k hk => exact .at_ k (hM k hk)
  | name x => exact .name x
  | does op a b ha hb => exact .does op a b (hR _ ha) (hR _ hb)
  | call f a hf ha => exact .call f a (hR _ hf) (hR _ ha)
  | let_ p prs b hp hl he hb =>
    refine .let_ p prs b (hH _ _ hp) hl (fun v hv => ?_) (hR _ hb)
    obtain ⟨c, x, e, h1, h2, h3⟩ := he v hv
    exact ⟨c, x, e, h1, hH _ _ h2, hR _ h3⟩
  | shape c p ps hp hl he hc => exact .shape c p ps (hH _ _ hp) hl (fun v hv => hR _ (he v hv)) hc
  | choose e p as he hp hl ha =>
    refine .choose e p as (hR _ he) (hH _ _ hp) hl fun v hv => ?_
    obtain ⟨c, b, n, f, xs, h1, h2, h3, h4⟩ := ha v hv
    exact ⟨c, b, n, f, xs, h1, hH _ _ h2, hH _ _ h3, hR _ h4⟩
  | first a b ha hb => exact .first a b (hR _ ha) (hR _ hb)
  | stop x => exact .stop x
theorem Nv.mono {M M' : Nat → Prop} {H H' : Hp} {D : Nat} {v : V} (hM : ∀ k, M k → M' k) (hH : TupK H H') (h : Nv M D H v) : Nv M' D H' v := by
  obtain ⟨a, xs, e, ha, hs⟩ := h
  exact ⟨a, xs, e, hH _ _ ha, hs.mono hM hH fun v hv => hv.mono hM hH (Nat.le_refl _)⟩
/-! frames -/
def Alts (M : Nat → Prop) (D : Nat) (H : Hp) (pa : Addr) (as : List V) : Prop := H pa = some (.tup as) ∧ as.length ≤ 6 ∧ ∀ v ∈ as, ∃ c, Alt H (Tm M H D) c v
theorem Alts.mono {M M' : Nat → Prop} {H H' : Hp} {D : Nat} {pa : Addr} {as : List V} (hM : ∀ k, M k → M' k) (hH : TupK H H') (h : Alts M D H pa as) : Alts M' D H' pa as := by
  refine ⟨hH _ _ h.1, h.2.1, fun v hv => ?_⟩
  obtain ⟨c, b, n, e, xs, h1, h2, h3, h4⟩ := h.2.2 v hv
  exact ⟨c, b, n, e, xs, h1, hH _ _ h2, hH _ _ h3, h4.mono hM hH (Nat.le_refl _)⟩
inductive FrmS (M : Nat → Prop) (D : Nat) (H : Hp) : List V → Option Nat → Prop
  | back (k : Nat) : FrmS M D H [.str "back", .int ((k : Nat) : Int)] (some k)
  | give (x : V) (h : Tm M H D x) : FrmS M D H [.str "give", x] none
  | choose (pa : Addr) (as : List V) (h : Alts M D H pa as) : FrmS M D H [.str "choose", .ref pa] none
  | left (op : Str) (x : V) (h : Tm M H D x) : FrmS M D H [.str "left", .str op, x] none
  | right (op : Str) (i : Int) (h0 : 0 ≤ i) (h1 : i < big) : FrmS M D H [.str "right", .str op, .int i] none
  | then_ (x : V) (h : Tm M H D x) : FrmS M D H [.str "then", x] none
def Frm (M : Nat → Prop) (D : Nat) (H : Hp) (v : V) (p : Option Nat) : Prop := ∃ a xs, v = .ref a ∧ H a = some (.tup xs) ∧ FrmS M D H xs p
theorem Frm.mono {M M' : Nat → Prop} {H H' : Hp} {D : Nat} {v : V} {p : Option Nat} (hM : ∀ k, M k → M' k) (hH : TupK H H') (h : Frm M D H v p) : Frm M' D H' v p := by
  obtain ⟨a, xs, e, ha, hs⟩ := h
  refine ⟨a, xs, e, hH _ _ ha, ?_⟩
  cases hs with
  | back k => exact .back k
  | give x h => exact .give x (h.mono hM hH (Nat.le_refl _))
  | choose pa as h => exact .choose pa as (h.mono hM hH)
  | left op x h => exact .left op x (h.mono hM hH (Nat.le_refl _))
  | right op i h0 h1 => exact .right op i h0 h1
  | then_ x h => exact .then_ x (h.mono hM hH (Nat.le_refl _))
def nums (st : WS) : List Nat := st.2.filterMap fun p => (st.1[p]?).map (·.n)
/-! the things -/
inductive Node (K : PySem.W.Frag) (M : Nat → Prop) (D : Nat) (H : Hp) (g : List LRow) (pl : List (Option Nat)) (k : Nat) (a : Addr) : Prop
  | wait (dx : Addr) (x : V) (h : H a = some (.ins (He.ga K "Waiting") dx [("text", x)])) (ht : Tm M H D x) (hn : ∀ r ∈ (W g).1, r.n ≠ k) : Node K M D H g pl k a
  | under (dx : Addr) (h : H a = some (.ins (He.ga K "Underway") dx [])) (hp : some k ∈ pl) : Node K M D H g pl k a
  | ready (dx : Addr) (x : V) (h : H a = some (.ins (He.ga K "Ready") dx [("value", x)])) (hv : Val M D H x) : Node K M D H g pl k a
structure Core (K : PySem.W.Frag) (A : Ad) (D : Nat) (M : Nat → Prop) (H : Hp) (S : S83) (t : Nat) (pl : List (Option Nat)) : Prop where
  lay : Lay K A H S
  good : Good S.log S.labels t
  fr : S.pile.length = pl.length ∧ ∀ (i : Nat) (v : V) (p : Option Nat), S.pile[i]? = some v → pl[i]? = some p → Frm M D H v p
  way : pl.filterMap id = nums (W S.log)
  keys : ∀ q ∈ S.things, ∃ (k : Nat) (a : Addr), q = (.inl ((k : Nat) : Int), .ref a) ∧ k < S.labels.length ∧ Node K M D H S.log pl k a
def Full (M : Nat → Prop) (S : S83) : Prop := ∀ k, M k → ∃ a, valV S.things (.inl ((k : Nat) : Int)) = some (.ref a)
section
variable {K : PySem.W.Frag} {A : Ad} {D : Nat} {M M' : Nat → Prop} {H H' : Hp} {S S' : S83} {t : Nat} {pl : List (Option Nat)}
theorem Node.mono {g : List LRow} {k : Nat} {a : Addr} (hM : ∀ k, M k → M' k) (L : Lay K A H S) (m : Mv A H H') (h : Node K M D H g pl k a) : Node K M' D H' g pl k a := by
  have hH := L.tupK m
  cases h with
  | wait dx x h ht hn => exact .wait dx x (L.ins m (by simp) h) (ht.mono hM hH (Nat.le_refl _)) hn
  | under dx h hp => exact .under dx (L.ins m (by simp) h) hp
  | ready dx x h hv => exact .ready dx x (L.ins m (by simp) h) (hv.mono hM hH)
/-- the writings that leave these alone -/
theorem Core.keep (C : Core K A D M H S t pl) (hM : ∀ k, M k → M' k) (L' : Lay K A H' S') (m : Mv A H H') (e1 : S'.pile = S.pile := by rfl) (e2 : S'.labels = S.labels := by rfl) (e3 : S'.log = S.log := by rfl) (e4 : S'.things = S.things := by rfl) : Core K A D M' H' S' t pl := by
  have hH := C.lay.tupK m
  refine ⟨L', by rw [e2, e3]; exact C.good, ?_, by rw [e3]; exact C.way, ?_⟩
  · rw [e1]
    exact ⟨C.fr.1, fun i v p a b => (C.fr.2 i v p a b).mono hM hH⟩
  · rw [e4, e2, e3]
    intro q hq
    obtain ⟨k, a, h1, h2, h3⟩ := C.keys q hq
    exact ⟨k, a, h1, h2, h3.mono hM C.lay m⟩
theorem Core.push (C : Core K A D M H S t pl) {v : V} (L' : Lay K A H' S') (m : Mv A H H') (hv : Frm M D H' v none) (e1 : S'.pile = S.pile ++ [v] := by rfl) (e2 : S'.labels = S.labels := by rfl) (e3 : S'.log = S.log := by rfl) (e4 : S'.things = S.things := by rfl) : Core K A D M H' S' t (pl ++ [none]) := by
  have hH := C.lay.tupK m
  refine ⟨L', by rw [e2, e3]; exact C.good, ?_, by rw [e3, List.filterMap_append]; simpa using C.way, ?_⟩
  · rw [e1]
    exact snoc2 (P := Frm M D H') ⟨C.fr.1, fun i v p a b => (C.fr.2 i v p a b).mono (fun _ z => z) hH⟩ hv
  · rw [e4, e2, e3]
    intro q hq
    obtain ⟨k, a, h1, h2, h3⟩ := C.keys q hq
    refine ⟨k, a, h1, h2, ?_⟩
    cases h3.mono (fun _ z => z) C.lay m with
    | wait dx x h ht hn => exact .wait dx x h ht hn
    | under dx h hp => exact .under dx h (List.mem_append_left _ hp)
    | ready dx x h hv => exact .ready dx x h hv
theorem snocL {α : Type} {l : List α} {n : Nat} (h : l.length = n + 1) : ∃ l' x, l = l' ++ [x] := by
  refine ⟨l.dropLast, l.getLast (by intro z; rw [z] at h; cases h), (List.dropLast_concat_getLast _).symm⟩
/-- the top of the pile -/
theorem Core.top (C : Core K A D M H S t pl) {ps : List V} {v : V} (e : S.pile = ps ++ [v]) : ∃ ql p, pl = ql ++ [p] ∧ ps.length = ql.length ∧ Frm M D H v p := by
  have l := C.fr.1
  rw [e, List.length_append] at l
  obtain ⟨ql, p, rfl⟩ := snocL (n := ps.length) (l := pl) (by simpa using l.symm)
  have hl : ps.length = ql.length := by simpa using l
  refine ⟨ql, p, rfl, hl, C.fr.2 ps.length v p (by rw [e]; simp) (by rw [hl]; simp)⟩
theorem Core.pop (C : Core K A D M H S t pl) {ps : List V} {v : V} {ql : List (Option Nat)} (L' : Lay K A H' S') (m : Mv A H H') (e : S.pile = ps ++ [v]) (ep : pl = ql ++ [none]) (e1 : S'.pile = ps := by rfl) (e2 : S'.labels = S.labels := by rfl) (e3 : S'.log = S.log := by rfl) (e4 : S'.things = S.things := by rfl) : Core K A D M H' S' t ql := by
  have hH := C.lay.tupK m
  subst ep
  refine ⟨L', by rw [e2, e3]; exact C.good, ?_, ?_, ?_⟩
  · have l := C.fr.1
    rw [e] at l
    rw [e1]
    have hl : ps.length = ql.length := by simpa using l
    refine ⟨hl, fun i v p a b => (C.fr.2 i v p ?_ ?_).mono (fun _ z => z) hH⟩
    · rw [e, List.getElem?_append_left (lt_len a)]; exact a
    · rw [List.getElem?_append_left (lt_len b)]; exact b
  · rw [e3, ← C.way, List.filterMap_append]
    simp
  · rw [e4, e2, e3]
    intro q hq
    obtain ⟨k, a, h1, h2, h3⟩ := C.keys q hq
    refine ⟨k, a, h1, h2, ?_⟩
    cases h3.mono (fun _ z => z) C.lay m with
    | wait dx x h ht hn => exact .wait dx x h ht hn
    | under dx h hp => exact .under dx h (by simpa using hp)
    | ready dx x h hv => exact .ready dx x h hv
end
end W83

namespace W83
open PySem PySem.Spec PyProof.Rows L2
/-! ### the log grows: the state keeps -/
theorem fm_congr {α β : Type} {f g : α → Option β} : ∀ {l : List α}, (∀ x ∈ l, f x = g x) → l.filterMap f = l.filterMap g
  | [], _ => rfl
  | x :: l, h => by
    have ih := fm_congr (l := l) fun y hy => h y (List.mem_cons_of_mem _ hy)
    simp only [List.filterMap_cons, h x List.mem_cons_self, ih]
theorem putK_mem' {κ : Type} [DecidableEq κ] {kvs : List (κ × V)} {k : κ} {v : V} {p : κ × V} (h : p ∈ putK kvs k v) : (p ∈ kvs ∧ p.1 ≠ k) ∨ p = (k, v) := by
  unfold putK at h
  split at h
  · obtain ⟨q, hq, e⟩ := List.mem_map.mp h
    by_cases c : q.1 = k
    · rw [if_pos c] at e
      subst e
      exact .inr (by rw [← c])
    · rw [if_neg c] at e
      subst e
      exact .inl ⟨hq, c⟩
  · rename_i hh
    rcases List.mem_append.mp h with c | c
    · refine .inl ⟨c, fun e => hh ?_⟩
      simp only [List.any_eq_true]
      exact ⟨p, c, by simp [e]⟩
    · exact .inr (List.mem_singleton.mp c)
theorem nums_of {rows : List WRow} : ∀ {way : List Nat}, (∀ p ∈ way, p < rows.length) → nums (rows, way) = way.filterMap fun p => (rows[p]?).map (·.n) := fun _ => rfl
theorem nums_len {rows : List WRow} : ∀ {way : List Nat}, (∀ p ∈ way, p < rows.length) → (nums (rows, way)).length = way.length
  | [], _ => rfl
  | p :: w, h => by
    have hp := h p List.mem_cons_self
    have ih := nums_len (rows := rows) (way := w) fun q hq => h q (List.mem_cons_of_mem _ hq)
    unfold nums at ih ⊢
    simp only [List.filterMap_cons]
    rw [List.getElem?_eq_getElem hp]
    simp only [Option.map_some, List.length_cons]
    simp only at ih
    rw [ih]
theorem nums_at {rows : List WRow} : ∀ {way : List Nat} (_ : ∀ p ∈ way, p < rows.length) (m : Nat), (nums (rows, way))[m]? = (way[m]?).bind fun p => (rows[p]?).map (·.n)
  | [], _, m => by simp [nums]
  | p :: w, h, m => by
    have hp := h p List.mem_cons_self
    have ih := nums_at (rows := rows) (way := w) fun q hq => h q (List.mem_cons_of_mem _ hq)
    unfold nums at ih ⊢
    simp only [List.filterMap_cons]
    rw [List.getElem?_eq_getElem hp]
    simp only [Option.map_some]
    cases m with
    | zero => simp [hp]
    | succ m => simpa using ih m
theorem nums_enter {g : List LRow} {L : List Str} {t : Nat} (h : Good g L t) {k s : Nat} {l : Str} : nums (W (g ++ [⟨.enter, k, l, s⟩])) = nums (W g) ++ [k] := by
  have F := h.fact
  rw [W_snoc]
  show nums ((W g).1 ++ [⟨k, l, topRow (W g), s, none⟩], (W g).2 ++ [(W g).1.length]) = _
  unfold nums
  simp only [List.filterMap_append, List.filterMap_cons, List.filterMap_nil]
  congr 1
  · apply fm_congr
    intro p hp
    rw [List.getElem?_append_left (F.wlt p hp)]
  · simp
theorem rows_enter {g : List LRow} {k s : Nat} {l : Str} {r : WRow} (h : r ∈ (W (g ++ [⟨.enter, k, l, s⟩])).1) : r ∈ (W g).1 ∨ r.n = k := by
  rw [W_snoc] at h
  have h : r ∈ (W g).1 ++ [⟨k, l, topRow (W g), s, none⟩] := h
  rcases List.mem_append.mp h with h | h
  · exact .inl h
  · rw [List.mem_singleton.mp h]
    exact .inr rfl
theorem W_other {g : List LRow} {r : LRow} (h : r.ev = .born ∨ r.ev = .again) : W (g ++ [r]) = W g := by
  rw [W_snoc]
  obtain ⟨e, n, l, s⟩ := r
  rcases h with h | h <;> · simp only at h; subst h; rfl
/-- the last on the way -/
theorem last_way {g : List LRow} {L : List Str} {t : Nat} (h : Good g L t) {ns : List Nat} {k : Nat} (e : nums (W g) = ns ++ [k]) : ∃ w p r, (W g).2 = w ++ [p] ∧ (W g).1[p]? = some r ∧ r.n = k := by
  have F := h.fact
  have l := nums_len (rows := (W g).1) (way := (W g).2) F.wlt
  have l2 : (W g).2.length = ns.length + 1 := by
    rw [← l]
    show (nums (W g)).length = _
    rw [e]; simp
  obtain ⟨w, p, hw⟩ := snocL l2
  have hl : w.length = ns.length := by rw [hw] at l2; simpa using l2
  have a := nums_at (rows := (W g).1) (way := (W g).2) F.wlt ns.length
  have b : (nums (W g))[ns.length]? = some k := by rw [e]; simp
  rw [show nums ((W g).1, (W g).2) = nums (W g) from rfl, b, hw, ← hl] at a
  simp only [List.getElem?_append_right (Nat.le_refl _), Nat.sub_self, List.getElem?_cons_zero, Option.bind_some] at a
  cases hr : (W g).1[p]? with
  | none => rw [hr] at a; cases a
  | some r =>
    rw [hr] at a
    exact ⟨w, p, r, hw, hr, (Option.some.inj a).symm⟩
theorem back_W {g : List LRow} {w : List Nat} {p s : Nat} {l : Str} {r : WRow} (hw : (W g).2 = w ++ [p]) (hr : (W g).1[p]? = some r) : (W (g ++ [⟨.back, r.n, l, s⟩])).2 = w ∧ (W (g ++ [⟨.back, r.n, l, s⟩])).1.map (·.n) = (W g).1.map (·.n) := by
  rw [W_snoc, wback hw hr]
  exact ⟨rfl, map_set_same hr rfl⟩
theorem map_n {a b : List WRow} (e : a.map (·.n) = b.map (·.n)) (p : Nat) : (a[p]?).map (·.n) = (b[p]?).map (·.n) := by
  rw [← List.getElem?_map, ← List.getElem?_map, e]
theorem nums_back {g : List LRow} {L : List Str} {t : Nat} (h : Good g L t) {ns : List Nat} {w : List Nat} {p s : Nat} {l : Str} {r : WRow} (e : nums (W g) = ns ++ [r.n]) (hw : (W g).2 = w ++ [p]) (hr : (W g).1[p]? = some r) : nums (W (g ++ [⟨.back, r.n, l, s⟩])) = ns := by
  obtain ⟨b1, b2⟩ := back_W (s := s) (l := l) hw hr
  unfold nums
  rw [b1]
  have : nums (W g) = (w.filterMap fun p => ((W g).1[p]?).map (·.n)) ++ [r.n] := by
    unfold nums
    rw [hw, List.filterMap_append]
    simp [hr]
  rw [e] at this
  have q := List.append_inj_left' this rfl
  rw [q]
  apply fm_congr
  intro q _
  exact map_n b2 q
theorem rows_back {g : List LRow} {w : List Nat} {p s : Nat} {l : Str} {r : WRow} (hw : (W g).2 = w ++ [p]) (hr : (W g).1[p]? = some r) {k : Nat} (hn : ∀ r ∈ (W g).1, r.n ≠ k) : ∀ x ∈ (W (g ++ [⟨.back, r.n, l, s⟩])).1, x.n ≠ k := by
  obtain ⟨_, b2⟩ := back_W (s := s) (l := l) hw hr
  intro x hx e
  have : k ∈ (W (g ++ [⟨.back, r.n, l, s⟩])).1.map (·.n) := e ▸ List.mem_map_of_mem hx
  rw [b2] at this
  obtain ⟨y, hy, ey⟩ := List.mem_map.mp this
  exact hn y hy ey
section
variable {K : PySem.W.Frag} {A : Ad} {D : Nat} {M M' : Nat → Prop} {H H' : Hp} {S S' : S83} {t : Nat} {pl : List (Option Nat)}
theorem Core.onWay (C : Core K A D M H S t pl) {ql : List (Option Nat)} {k : Nat} (e : pl = ql ++ [some k]) : ∃ l w p r, S.labels[k]? = some l ∧ (W S.log).2 = w ++ [p] ∧ (W S.log).1[p]? = some r ∧ r.n = k ∧ nums (W S.log) = ql.filterMap id ++ [r.n] := by
  have h := C.way
  rw [e, List.filterMap_append] at h
  obtain ⟨w, p, r, h1, h2, h3⟩ := last_way C.good (ns := ql.filterMap id) (k := k) (by rw [← h]; simp)
  refine ⟨r.l, w, p, r, ?_, h1, h2, h3, by rw [← h, h3]; simp⟩
  rw [← h3]
  exact C.good.fact.lab r (List.mem_of_getElem? h2)
/-- pop, then back -/
theorem Core.back (C : Core K A D M H S t pl) (ht : t ≤ S.steps) {ps : List V} {v v' : V} {ql : List (Option Nat)} {k : Nat} {l : Str} {x dx : Addr} (e : S.pile = ps ++ [v]) (ep : pl = ql ++ [some k]) (hl : S.labels[k]? = some l) (hand : Val M D H S.hand) (m : Mv A H H')
    (L' : Lay K A H' ({ S with pile := ps }.backS v' k l x)) (hx : H' x = some (.ins (He.ga K "Ready") dx [("value", S.hand)])) : Core K A D M H' ({ S with pile := ps }.backS v' k l x) S.steps ql := by
  have hH := C.lay.tupK m
  obtain ⟨_, w, p, r, _, h1, h2, rfl, h4⟩ := C.onWay ep
  have G := Good.back (s := S.steps) C.good h1 h2 hl ht
  refine ⟨L', G, ?_, (nums_back C.good h4 h1 h2).symm, ?_⟩
  · have le := C.fr.1
    rw [e, ep] at le
    have hl : ps.length = ql.length := by simpa using le
    refine ⟨hl, fun i v p a b => (C.fr.2 i v p ?_ ?_).mono (fun _ z => z) hH⟩
    · have a : ps[i]? = some v := a
      rw [e, List.getElem?_append_left (lt_len a)]; exact a
    · rw [ep, List.getElem?_append_left (lt_len b)]; exact b
  · intro q hq
    rcases putK_mem' hq with ⟨hq, hne⟩ | rfl
    · obtain ⟨k, a, rfl, h5, h6⟩ := C.keys q hq
      refine ⟨k, a, rfl, h5, ?_⟩
      cases h6.mono (fun _ z => z) C.lay m with
      | wait dx x h ht hn => exact .wait dx x h ht (rows_back h1 h2 hn)
      | under dx h hp =>
        refine .under dx h ?_
        rw [ep] at hp
        rcases List.mem_append.mp hp with z | z
        · exact z
        · exfalso
          have : k = r.n := by simpa using z
          exact hne (by rw [this])
      | ready dx x h hv => exact .ready dx x h hv
    · exact ⟨r.n, x, rfl, (List.getElem?_eq_some_iff.mp hl).1, .ready dx S.hand hx (hand.mono (fun _ z => z) hH)⟩
/-- born, without its thing -/
theorem Core.numb (C : Core K A D M H S t pl) (ht : t ≤ S.steps) {v : V} {l : Str} (m : Mv A H H') (L' : Lay K A H' (S.numb v l)) : Core K A D M H' (S.numb v l) S.steps pl := by
  have hH := C.lay.tupK m
  refine ⟨L', Good.born l C.good ht, ⟨C.fr.1, fun i v p a b => (C.fr.2 i v p a b).mono (fun _ z => z) hH⟩, ?_, ?_⟩
  · show pl.filterMap id = nums (W (S.log ++ [⟨.born, S.labels.length, l, S.steps⟩]))
    rw [W_other (.inl rfl)]
    exact C.way
  · intro q hq
    obtain ⟨k, a, rfl, h5, h6⟩ := C.keys q hq
    refine ⟨k, a, rfl, by show k < (S.labels ++ [l]).length; rw [List.length_append]; omega, ?_⟩
    have wo : W (S.numb v l).log = W S.log := W_other (.inl rfl)
    cases h6.mono (fun _ z => z) C.lay m with
    | wait dx x h ht hn => exact .wait dx x h ht (by rw [wo]; exact hn)
    | under dx h hp => exact .under dx h hp
    | ready dx x h hv => exact .ready dx x h hv
/-- a new thing waits -/
theorem Core.wait (C : Core K A D M H S t pl) {k : Nat} {x dx : Addr} {y : V} (m : Mv A H H') (L' : Lay K A H' { S with things := putK S.things (.inl ((k : Nat) : Int)) (.ref x) }) (hk : k < S.labels.length) (hn : ∀ r ∈ (W S.log).1, r.n ≠ k)
    (hx : H' x = some (.ins (He.ga K "Waiting") dx [("text", y)])) (hy : Tm M H' D y) : Core K A D M H' { S with things := putK S.things (.inl ((k : Nat) : Int)) (.ref x) } t pl := by
  have hH := C.lay.tupK m
  refine ⟨L', C.good, ⟨C.fr.1, fun i v p a b => (C.fr.2 i v p a b).mono (fun _ z => z) hH⟩, C.way, ?_⟩
  intro q hq
  rcases putK_mem' hq with ⟨hq, hne⟩ | rfl
  · obtain ⟨k, a, rfl, h5, h6⟩ := C.keys q hq
    exact ⟨k, a, rfl, h5, h6.mono (fun _ z => z) C.lay m⟩
  · exact ⟨k, x, rfl, hk, .wait dx y hx hy hn⟩
theorem Core.again (C : Core K A D M H S t pl) (ht : t ≤ S.steps) {v : V} {k : Nat} {l : Str} (m : Mv A H H') (hl : S.labels[k]? = some l) (L' : Lay K A H' (S.noted v .again k l)) : Core K A D M H' (S.noted v .again k l) S.steps pl := by
  have hH := C.lay.tupK m
  have wo : W (S.noted v .again k l).log = W S.log := W_other (.inr rfl)
  refine ⟨L', Good.again C.good hl ht, ⟨C.fr.1, fun i v p a b => (C.fr.2 i v p a b).mono (fun _ z => z) hH⟩, by rw [wo]; exact C.way, ?_⟩
  intro q hq
  obtain ⟨k, a, rfl, h5, h6⟩ := C.keys q hq
  refine ⟨k, a, rfl, h5, ?_⟩
  cases h6.mono (fun _ z => z) C.lay m with
  | wait dx x h ht hn => exact .wait dx x h ht (by rw [wo]; exact hn)
  | under dx h hp => exact .under dx h hp
  | ready dx x h hv => exact .ready dx x h hv
/-- entered the first time -/
def S83.enterS (S : S83) (v f : V) (k : Nat) (l : Str) (u : Addr) (y : V) : S83 := { S.noted v .enter k l with pile := S.pile ++ [f], things := putK S.things (.inl ((k : Nat) : Int)) (.ref u), hand := y }
theorem Core.enter (C : Core K A D M H S t pl) (ht : t < S.steps) {v y : V} {k : Nat} {l : Str} {u b dx : Addr} (m : Mv A H H') (hl : S.labels[k]? = some l) (hn : ∀ r ∈ (W S.log).1, r.n ≠ k) (L' : Lay K A H' (S.enterS v (.ref b) k l u y))
    (hb : H' b = some (.tup [.str "back", .int ((k : Nat) : Int)])) (hu : H' u = some (.ins (He.ga K "Underway") dx [])) : Core K A D M H' (S.enterS v (.ref b) k l u y) S.steps (pl ++ [some k]) := by
  have hH := C.lay.tupK m
  have hb' : ∀ r ∈ (W S.log).1, r.b < S.steps := fun r hr => Nat.lt_of_le_of_lt (C.good.fact.bt r hr) ht
  refine ⟨L', Good.enter C.good hl hn (Nat.le_of_lt ht) hb', ?_, ?_, ?_⟩
  · exact snoc2 (P := Frm M D H') ⟨C.fr.1, fun i v p a b => (C.fr.2 i v p a b).mono (fun _ z => z) hH⟩ ⟨b, _, rfl, hb, .back k⟩
  · show (pl ++ [some k]).filterMap id = nums (W (S.log ++ [⟨.enter, k, l, S.steps⟩]))
    rw [nums_enter C.good, ← C.way, List.filterMap_append]
    rfl
  · intro q hq
    rcases putK_mem' hq with ⟨hq, hne⟩ | rfl
    · obtain ⟨k', a, rfl, h5, h6⟩ := C.keys q hq
      refine ⟨k', a, rfl, h5, ?_⟩
      have hkk : k' ≠ k := fun z => hne (by rw [z])
      cases h6.mono (fun _ z => z) C.lay m with
      | wait dx x h ht hn =>
        refine .wait dx x h ht fun r hr => ?_
        rcases rows_enter hr with z | z
        · exact hn r z
        · rw [z]; exact hkk.symm
      | under dx h hp => exact .under dx h (List.mem_append_left _ hp)
      | ready dx x h hv => exact .ready dx x h hv
    · exact ⟨k, u, rfl, (List.getElem?_eq_some_iff.mp hl).1, .under dx hu (by simp)⟩
end
end W83

namespace W83
open PySem PySem.Spec PyProof.Rows L2
abbrev N_tell : List Str := ["runner", "value", "mark"]
abbrev P_tell : List Str := ["runner"]
theorem sc_tell : FnScope N_tell P_tell d_tell.scope := ⟨rfl, rfl, rfl, by decide +kernel, rfl, by decide +kernel, by decide +kernel⟩

abbrev N_take_up : List Str := ["runner", "told"]
abbrev P_take_up : List Str := ["runner"]
theorem sc_take_up : FnScope N_take_up P_take_up d_take_up.scope := ⟨rfl, rfl, rfl, by decide +kernel, rfl, by decide +kernel, by decide +kernel⟩

def SayE (H : Hp) (v : V) : Prop := ∃ a, ∃ x : Str, v = .ref a ∧ H a = some (.tup [.str "say", .str x]) ∧ x.length ≤ 1
def PartE (H : Hp) (R : V → Prop) (v : V) : Prop := ∃ a m, ∃ d : Int, v = .ref a ∧ H a = some (.tup [.str "part", m, .int d]) ∧ R m
def RestE (M : Nat → Prop) (H : Hp) (v : V) : Prop := SayE H v ∨ PartE H (Mrk M H) v
theorem RestE.mono {M M' : Nat → Prop} {H H' : Hp} {v : V} (hM : ∀ k, M k → M' k) (hH : TupK H H') (h : RestE M H v) : RestE M' H' v := by
  rcases h with ⟨a, x, h1, h2, h3⟩ | ⟨a, m, d, h1, h2, h3⟩
  · exact .inl ⟨a, x, h1, hH _ _ h2, h3⟩
  · exact .inr ⟨a, m, d, h1, hH _ _ h2, h3.mono hM hH⟩
def spTell (K : PySem.W.Frag) : Sp := fun vs H Q _ => ∃ (A : Ad) (S : S83) (M : Nat → Prop) (D : Nat), vs = [.ref A.m] ∧ Lay K A H S ∧ Val M D H S.hand ∧ S.words.length ≤ 50000 ∧ S.rest.length ≤ 50000 ∧
  ∀ (x : Str) (rs : List V) (H' : Hp), Mv A H H' → Lay K A H' { S with hand := .non, words := S.words ++ [x], rest := S.rest ++ rs } → x.length ≤ 21 → rs.length ≤ 5 → (∀ v ∈ rs, RestE M H' v) → Q .non H'
def spTakeUp (K : PySem.W.Frag) : Sp := fun vs H Q _ => ∃ (A : Ad) (S : S83) (rs : List V) (v : V) (R : V → Prop), vs = [.ref A.m] ∧ Lay K A H S ∧ S.rest = rs ++ [v] ∧ (SayE H v ∨ PartE H R v) ∧ S.words.length ≤ 50000 ∧
  (∀ (x : Str) (H' : Hp), Mv A H H' → Lay K A H' { S with words := S.words ++ [x], rest := rs } → x.length ≤ 21 → Q .non H') ∧
  (∀ (m : V) (d : Int) (H' : Hp), PartE H R v → R m → Mv A H H' → Lay K A H' { S with hand := m, depth := d, rest := rs } → Q .non H')
section
variable {P : Program} {w : World} {K : PySem.W.Frag} {mg : Str → Option Value} {base : Heap}
theorem ok_tell (T : Top K mg) : Keeps P w K mg base CX0 1 d_tell P_tell (spTell K) := by
  obtain ⟨fd, F, bd⟩ := T.f_tell
  refine keeps0 F bd sc_tell (fun vs H Q E h => ?_) (fun cdv AA outer s H vs Q E hr h => ?_)
  · obtain ⟨A, S, M, D, rfl, _⟩ := h
    rfl
  obtain ⟨A, S, M, D, rfl, L, ⟨a, xs, hh, ha, hs⟩, hw, hrr, q⟩ := h
  refine ⟨_, (pss_cons (ps_set (i := 1) sc_tell.nd rfl (Or.inl rfl) (pe_fld (pv 0) rfl))
    (pss_cons (ps_fld (pv 0) pe_non rfl)
    (pss_one (ps_if (pt_cmpR op_eq (pe_ix ix_tup (pv 1) pe_int (fun _ _ => rfl)) pe_str (nomark _))
    (pss_one (ps_expr (pe_bm PySem.F.plainAttrs_list PySem.F.slot_list_append PySem.F.type_list_append mt_append (pe_fld (pv 0) rfl) (pa_cons (pe_callTy call_str_int (by rfl) T.z_str (by decide +kernel) (pa_cons (pe_ix ix_tup (pv 1) pe_int (fun _ _ => rfl)) pa_nil)) pa_nil))))
    (pss_one (ps_if (pt_cmpR op_eq (pe_ix ix_tup (pv 1) pe_int (fun _ _ => rfl)) pe_str (nomark _))
    (pss_one (ps_expr (pe_bm PySem.F.plainAttrs_list PySem.F.slot_list_append PySem.F.type_list_append mt_append (pe_fld (pv 0) rfl) (pa_cons pe_str pa_nil))))
    (pss_one (ps_if (pt_cmpR op_eq (pe_callB call_len_seq (by rfl) T.z_len PySem.boot_len (pa_cons (pe_ix ix_tup (pv 1) pe_int (fun _ _ => rfl)) pa_nil)) pe_int (nomark _))
    (pss_one (ps_expr (pe_bm PySem.F.plainAttrs_list PySem.F.slot_list_append PySem.F.type_list_append mt_append (pe_fld (pv 0) rfl) (pa_cons (pe_ix ix_tup (pv 1) pe_int (fun _ _ => rfl)) pa_nil))))
    (pss_cons (ps_expr (pe_bm PySem.F.plainAttrs_list PySem.F.slot_list_append PySem.F.type_list_append mt_append (pe_fld (pv 0) rfl) (pa_cons (pe_op op_add_str pe_str (pe_ix ix_tup (pv 1) pe_int (fun _ _ => rfl))) pa_nil)))
    (pss_cons (ps_expr (pe_bm PySem.F.plainAttrs_list PySem.F.slot_list_append PySem.F.type_list_append mt_append (pe_fld (pv 0) rfl) (pa_cons (pe_tup (pa_cons pe_str (pa_cons pe_str pa_nil))) pa_nil)))
    (pss_one (ps_for PassesOwn.never rfl (RT.pi_revA (by rfl) T.z_reversed (pe_ix ix_tup (pv 1) pe_int (fun _ _ => rfl))) (pg_name (i := 2) sc_tell.nd rfl (Or.inl rfl))
    (pss_cons (ps_expr (pe_bm PySem.F.plainAttrs_list PySem.F.slot_list_append PySem.F.type_list_append mt_append (pe_fld (pv 0) rfl) (pa_cons (pe_tup (pa_cons pe_str (pa_cons (pv 2) (pa_cons (pe_op op_sub (pe_fld (pv 0) rfl) pe_int) pa_nil)))) pa_nil)))
    (pss_one (ps_expr (pe_bm PySem.F.plainAttrs_list PySem.F.slot_list_append PySem.F.type_list_append mt_append (pe_fld (pv 0) rfl) (pa_cons (pe_tup (pa_cons pe_str (pa_cons pe_str pa_nil))) pa_nil))))))))))))))))), ?_⟩
  refine ⟨_, rfl, A.m, _, _, _, _, rfl, L.ob, T.c_Machine, T.n_Machine_hand, fl_hand, ?_⟩
  rw [hh]
  refine ⟨_, rfl, A.m, _, _, _, rfl, L.ob, T.c_Machine, T.n_Machine_hand, fl_len, ?_⟩
  rw [pf_hand]
  have L1 := L.fld { S with hand := .non }
  have hH1 := L.tupK (mvm (o := .ins (He.ga K "Machine") A.dx (flds A { S with hand := .non })))
  have ha1 := hH1 _ _ ha
  cases hs with
  | number i h0 h1 =>
    refine ⟨_, rfl, a, _, _, _, rfl, rfl, SqT.of ha1, rfl, rfl, _, rfl, ifT (by decide +kernel) ?_⟩
    refine ⟨_, rfl, A.m, _, _, _, _, rfl, L1.ob, T.c_Machine, T.n_Machine_words, fl_words, .inl ⟨rfl, _, SqL.of L1.wo⟩, ?_⟩
    have sh := PyProof.Rows.shown (a := i) (N := big) (by have : big = 1000000000000000000 := rfl; omega) h1 (by decide)
    refine ⟨_, rfl, a, _, _, _, rfl, rfl, SqT.of ha1, rfl, i, rfl, sh, ?_⟩
    refine ⟨A.wa, _, _, rfl, rfl, L1.wo, small9 (by rw [List.length_map]; show S.words.length ≤ _; omega), ?_⟩
    refine q (toString i) [] _ (mvm.trans mvw) ?_ ?_ (by simp) (fun v hv => by cases hv)
    · have := L1.word (toString i)
      simpa using this
    · have z := PyProof.Rows.toString_length_le (v := i) (k := 18) h0 (by decide) (by exact h1)
      exact Nat.le_trans z (by decide)
  | fun_ x b hb =>
    refine ⟨_, rfl, a, _, _, _, rfl, rfl, SqT.of ha1, rfl, rfl, _, rfl, ifF (by decide +kernel) ?_⟩
    refine ⟨_, rfl, a, _, _, _, rfl, rfl, SqT.of ha1, rfl, rfl, _, rfl, ifT (by decide +kernel) ?_⟩
    refine ⟨_, rfl, A.m, _, _, _, _, rfl, L1.ob, T.c_Machine, T.n_Machine_words, fl_words, .inl ⟨rfl, _, SqL.of L1.wo⟩, ?_⟩
    refine ⟨A.wa, _, _, rfl, rfl, L1.wo, small9 (by rw [List.length_map]; show S.words.length ≤ _; omega), ?_⟩
    refine q "fun" [] _ (mvm.trans mvw) ?_ (by decide +kernel) (by simp) (fun v hv => by cases hv)
    have := L1.word "fun"
    simpa using this
  | made c p ms hp hl hm hc =>
    have hp1 := hH1 _ _ hp
    refine ⟨_, rfl, a, _, _, _, rfl, rfl, SqT.of ha1, rfl, rfl, _, rfl, ifF (by decide +kernel) ?_⟩
    refine ⟨_, rfl, a, _, _, _, rfl, rfl, SqT.of ha1, rfl, rfl, _, rfl, ifF (by decide +kernel) ?_⟩
    refine ⟨_, rfl, a, _, _, _, rfl, rfl, SqT.of ha1, rfl, p, _, rfl, .inr (SqT.of hp1), rfl, _, rfl, ifB (fun e => ?_) (fun e => ?_)⟩
    · refine ⟨_, rfl, A.m, _, _, _, _, rfl, L1.ob, T.c_Machine, T.n_Machine_words, fl_words, .inl ⟨rfl, _, SqL.of L1.wo⟩, ?_⟩
      refine ⟨_, rfl, a, _, _, _, rfl, rfl, SqT.of ha1, rfl, ?_⟩
      refine ⟨A.wa, _, _, rfl, rfl, L1.wo, small9 (by rw [List.length_map]; show S.words.length ≤ _; omega), ?_⟩
      refine q c [] _ (mvm.trans mvw) ?_ (by omega) (by simp) (fun v hv => by cases hv)
      have := L1.word c
      simpa using this
    · have hlen : (("(" : Str) ++ c).length ≤ 11 := by
        rw [strLen_append]
        have : ("(" : Str).length = 1 := by decide +kernel
        omega
      refine ⟨_, rfl, A.m, _, _, _, _, rfl, L1.ob, T.c_Machine, T.n_Machine_words, fl_words, .inl ⟨rfl, _, SqL.of L1.wo⟩, ?_⟩
      refine ⟨_, rfl, a, _, _, _, rfl, rfl, SqT.of ha1, rfl, _, _, rfl, rfl, by rw [← strLen_append]; exact small50 (by omega), ?_⟩
      refine ⟨A.wa, _, _, rfl, rfl, L1.wo, small9 (by rw [List.length_map]; show S.words.length ≤ _; omega), ?_⟩
      have L2 := L1.word (("(" : Str) ++ c)
      refine ⟨_, rfl, A.m, _, _, _, _, rfl, L2.ob, T.c_Machine, T.n_Machine_rest, fl_rest, .inl ⟨rfl, _, SqL.of L2.re⟩, small50 (by simp), fun t ht => ?_⟩
      have L3 := L2.same (same_new (o := .tup [.str "say", .str ")"]) ht)
      refine ⟨A.ra, _, _, rfl, rfl, L3.re, small9 (by show S.rest.length ≤ _; omega), ?_⟩
      have L4 := L3.rest (S.rest ++ [.ref t])
      have m4 := ((mvm (A := A) (H := H) (o := .ins (He.ga K "Machine") A.dx (flds A { S with hand := .non }))).trans (mvw (o := .lst (S.words.map V.str ++ [.str (("(" : Str) ++ c)])))).trans ((mvn (o := .tup [.str "say", .str ")"]) ht).trans (mvr (o := .lst (S.rest ++ [.ref t]))))
      have hH4 := L.tupK m4
      have ht4 := (L3.tupK (mvr (o := .lst (S.rest ++ [.ref t])))) _ _ upd_same
      refine ⟨_, rfl, a, _, _, _, rfl, rfl, SqT.of (hH4 _ _ ha), rfl, p, ms, rfl, .inr ⟨SqT.of (hH4 _ _ hp), RT.for_ItvT (K := K) (a := p) (xs := ms)
        (fun i σ G => ∃ v2, σ = [some (.ref A.m), some (.ref a), v2] ∧ Mv A H G ∧ ∃ rs, Lay K A G { S with hand := .non, words := S.words ++ [("(" : Str) ++ c], rest := S.rest ++ rs } ∧ rs.length = 1 + 2 * i ∧ ∀ v ∈ rs, RestE M G v)
        ⟨_, rfl, m4, [.ref t], L4, rfl, fun v hv => by
          rw [List.mem_singleton.mp hv]
          exact .inl ⟨t, _, rfl, ht4, by decide +kernel⟩⟩ (fun i σ G h => ?_) ?_ ?_⟩⟩
      · obtain ⟨_, _, m, _⟩ := h
        exact SqT.of ((L.tupK m) _ _ hp)
      · rintro i x σ G hi hx ⟨v2, rfl, m, rs, Lg, lr, hrs⟩
        have hxm : Mrk M G x := (hm x (List.mem_of_getElem? hx)).mono (fun _ z => z) (L.tupK m)
        refine ⟨_, rfl, A.m, _, _, _, _, rfl, Lg.ob, T.c_Machine, T.n_Machine_rest, fl_rest, .inl ⟨rfl, _, SqL.of Lg.re⟩, _, rfl, _, rfl, A.m, _, _, _, _, rfl, Lg.ob, T.c_Machine, T.n_Machine_depth, fl_depth, _, _, rfl, rfl, small50 (by simp), fun u hu => ?_⟩
        have La := Lg.same (same_new (o := .tup [.str "part", x, .int (S.depth - 1)]) hu)
        refine ⟨A.ra, _, _, rfl, rfl, La.re, small9 (by show (S.rest ++ rs).length ≤ _; rw [List.length_append]; omega), ?_⟩
        have Lb := La.rest (S.rest ++ rs ++ [.ref u])
        refine ⟨_, rfl, A.m, _, _, _, _, rfl, Lb.ob, T.c_Machine, T.n_Machine_rest, fl_rest, .inl ⟨rfl, _, SqL.of Lb.re⟩, small50 (by simp), fun z hz => ?_⟩
        have Lc := Lb.same (same_new (o := .tup [.str "say", .str " "]) hz)
        refine ⟨A.ra, _, _, rfl, rfl, Lc.re, small9 (by show (S.rest ++ rs ++ [V.ref u]).length ≤ _; rw [List.length_append, List.length_append, List.length_singleton]; omega), ?_⟩
        have Ld := Lc.rest (S.rest ++ rs ++ [.ref u] ++ [.ref z])
        have k1 := (mvn (A := A) (o := .tup [.str "part", x, .int (S.depth - 1)]) hu).trans (mvr (o := .lst (S.rest ++ rs ++ [.ref u])))
        have k2 := (mvn (A := A) (o := .tup [.str "say", .str " "]) hz).trans (mvr (o := .lst (S.rest ++ rs ++ [.ref u] ++ [.ref z])))
        have t2 := Lg.tupK (k1.trans k2)
        have hu2 := (Lb.tupK k2) _ _ ((La.tupK (mvr (o := .lst (S.rest ++ rs ++ [.ref u])))) _ _ upd_same)
        have hz2 := (Lc.tupK (mvr (o := .lst (S.rest ++ rs ++ [.ref u] ++ [.ref z])))) _ _ upd_same
        refine ⟨_, rfl, m.trans (k1.trans k2), rs ++ [.ref u, .ref z], by simpa using Ld, by rw [List.length_append, lr]; simp; omega, fun v hv => ?_⟩
        rcases List.mem_append.mp hv with e | e
        · exact (hrs v e).mono (fun _ z => z) t2
        · simp only [List.mem_cons, List.not_mem_nil, or_false] at e
          rcases e with rfl | rfl
          · exact .inr ⟨u, x, _, rfl, hu2, hxm.mono (fun _ z => z) t2⟩
          · exact .inl ⟨z, _, rfl, hz2, by decide +kernel⟩
      · rintro σ G ⟨v2, rfl, m, rs, Lg, lr, hrs⟩
        exact q _ rs G m Lg (by omega) (by omega) hrs
theorem lastA {xs : List V} {v : V} : (xs ++ [v])[(xs ++ [v]).length - 1]? = some v := by simp
theorem ok_take_up (T : Top K mg) : Keeps P w K mg base CX0 1 d_take_up P_take_up (spTakeUp K) := by
  obtain ⟨fd, F, bd⟩ := T.f_take_up
  refine keeps0 F bd sc_take_up (fun vs H Q E h => ?_) (fun cdv AA outer s H vs Q E hr h => ?_)
  · obtain ⟨A, S, rs, v, R, rfl, _⟩ := h
    rfl
  obtain ⟨A, S, rs, v, R, rfl, L, er, hv, hw, q1, q2⟩ := h
  refine ⟨_, (pss_cons (ps_set (i := 1) sc_take_up.nd rfl (Or.inl rfl) (pe_bm0 PySem.F.plainAttrs_list PySem.F.slot_list_pop PySem.F.type_list_pop mt_pop (pe_fld (pv 0) rfl)))
    (pss_one (ps_if (pt_cmpR op_eq (pe_ix ix_tup (pv 1) pe_int (fun _ _ => rfl)) pe_str (nomark _))
    (pss_one (ps_expr (pe_bm PySem.F.plainAttrs_list PySem.F.slot_list_append PySem.F.type_list_append mt_append (pe_fld (pv 0) rfl) (pa_cons (pe_ix ix_tup (pv 1) pe_int (fun _ _ => rfl)) pa_nil))))
    (pss_one (ps_if (pt_cmpR op_eq (pe_ix ix_tup (pv 1) pe_int (fun _ _ => rfl)) pe_int (nomark _))
    (pss_one (ps_expr (pe_bm PySem.F.plainAttrs_list PySem.F.slot_list_append PySem.F.type_list_append mt_append (pe_fld (pv 0) rfl) (pa_cons pe_str pa_nil))))
    (pss_cons (ps_fld (pv 0) (pe_ix ix_tup (pv 1) pe_int (fun _ _ => rfl)) rfl)
    (pss_one (ps_fld (pv 0) (pe_ix ix_tup (pv 1) pe_int (fun _ _ => rfl)) rfl)))))))), ?_⟩
  have hre := L.re
  rw [er] at hre
  refine ⟨_, rfl, A.m, _, _, _, _, rfl, L.ob, T.c_Machine, T.n_Machine_rest, fl_rest, .inl ⟨rfl, _, SqL.of L.re⟩, A.ra, _, v, rfl, rfl, hre, lastA, ?_⟩
  rw [List.dropLast_concat]
  have L1 := L.rest rs
  have hH := L.tupK (mvr (o := .lst rs))
  rcases hv with ⟨a, x, rfl, ha, hx⟩ | ⟨a, m, d, rfl, ha, hm⟩
  · have ha1 := hH _ _ ha
    refine ⟨_, rfl, a, _, _, _, rfl, rfl, SqT.of ha1, rfl, rfl, _, rfl, ifT (by decide +kernel) ?_⟩
    refine ⟨_, rfl, A.m, _, _, _, _, rfl, L1.ob, T.c_Machine, T.n_Machine_words, fl_words, .inl ⟨rfl, _, SqL.of L1.wo⟩, ?_⟩
    refine ⟨_, rfl, a, _, _, _, rfl, rfl, SqT.of ha1, rfl, ?_⟩
    refine ⟨A.wa, _, _, rfl, rfl, L1.wo, small9 (by rw [List.length_map]; show S.words.length ≤ _; omega), ?_⟩
    exact q1 x _ (mvr.trans mvw) (L1.word x) (by omega)
  · have ha1 := hH _ _ ha
    refine ⟨_, rfl, a, _, _, _, rfl, rfl, SqT.of ha1, rfl, rfl, _, rfl, ifF (by decide +kernel) ?_⟩
    refine ⟨_, rfl, a, _, _, _, rfl, rfl, SqT.of ha1, rfl, rfl, _, rfl, ifB (fun e => ?_) (fun e => ?_)⟩
    · refine ⟨_, rfl, A.m, _, _, _, _, rfl, L1.ob, T.c_Machine, T.n_Machine_words, fl_words, .inl ⟨rfl, _, SqL.of L1.wo⟩, ?_⟩
      refine ⟨A.wa, _, _, rfl, rfl, L1.wo, small9 (by rw [List.length_map]; show S.words.length ≤ _; omega), ?_⟩
      exact q1 "?" _ (mvr.trans mvw) (L1.word "?") (by decide +kernel)
    · refine ⟨_, rfl, a, _, _, _, rfl, rfl, SqT.of ha1, rfl, ?_⟩
      refine ⟨_, rfl, A.m, _, _, _, rfl, L1.ob, T.c_Machine, T.n_Machine_hand, fl_len, ?_⟩
      rw [pf_hand]
      have L2 := L1.fld { S with hand := m, rest := rs }
      have ha2 := L1.tupK (mvm (o := .ins (He.ga K "Machine") A.dx (flds A { S with hand := m, rest := rs }))) _ _ ha1
      refine ⟨_, rfl, a, _, _, _, rfl, rfl, SqT.of ha2, rfl, ?_⟩
      refine ⟨_, rfl, A.m, _, _, _, rfl, L2.ob, T.c_Machine, T.n_Machine_depth, fl_len, ?_⟩
      rw [pf_depth]
      exact q2 m d _ ⟨a, m, d, rfl, ha, hm⟩ hm (mvr.trans (mvm.trans mvm)) (L2.fld { S with hand := m, depth := d, rest := rs })
end
end W83

namespace W83
open PySem PySem.Spec PyProof.Rows L2
abbrev N_fits : List Str := ["frame", "value", "one"]
abbrev P_fits : List Str := ["frame", "value"]
theorem sc_fits : FnScope N_fits P_fits d_fits.scope := ⟨rfl, rfl, rfl, by decide +kernel, rfl, by decide +kernel, by decide +kernel⟩

inductive Fit (M : Nat → Prop) (D : Nat) (H : Hp) : List V → List V → Prop
  | give (x : V) (y : Str) (b : V) (hx : Tm M H D x) (hb : Tm M H D b) : Fit M D H [.str "give", x] [.str "fun", .str y, b]
  | choose (pa : Addr) (as : List V) (c : Str) (p : Addr) (ms : List V) (h : Alts M D H pa as) (hp : H p = some (.tup ms)) (hl : ms.length ≤ 2) (hm : ∀ m ∈ ms, Mrk M H m) (he : ∃ v ∈ as, Alt H (Tm M H D) c v) : Fit M D H [.str "choose", .ref pa] [.str "made", .str c, .ref p]
  | left (op : Str) (x : V) (i : Int) (h : Tm M H D x) (h0 : 0 ≤ i) (h1 : i < big) : Fit M D H [.str "left", .str op, x] [.str "number", .int i]
  | right (op : Str) (i j : Int) (h0 : 0 ≤ i) (h1 : i < big) (g0 : 0 ≤ j) (g1 : j < big) : Fit M D H [.str "right", .str op, .int i] [.str "number", .int j]
  | then_ (x : V) (vs : List V) (h : Tm M H D x) (hv : ValS M H (Tm M H D) vs) : Fit M D H [.str "then", x] vs
theorem Fit.mono {M : Nat → Prop} {H H' : Hp} {D : Nat} {fs vs : List V} (hH : TupK H H') (h : Fit M D H fs vs) : Fit M D H' fs vs := by
  cases h with
  | give x y b hx hb => exact .give x y b (hx.keep hH) (hb.keep hH)
  | choose pa as c p ms h hp hl hm he =>
    refine .choose pa as c p ms (h.mono (fun _ z => z) hH) (hH _ _ hp) hl (fun m z => (hm m z).mono (fun _ z => z) hH) ?_
    obtain ⟨v, hv, h⟩ := he
    exact ⟨v, hv, alt_same h hH⟩
  | left op x i h h0 h1 => exact .left op x i (h.keep hH) h0 h1
  | right op i j h0 h1 g0 g1 => exact .right op i j h0 h1 g0 g1
  | then_ x vs h hv => exact .then_ x vs (h.keep hH) (hv.mono (fun _ z => z) hH fun _ z => z.keep hH)
def spFits : Sp := fun vs H Q _ => ∃ (M : Nat → Prop) (D : Nat) (f a : Addr) (fs xs : List V), vs = [.ref f, .ref a] ∧ H f = some (.tup fs) ∧ H a = some (.tup xs) ∧ FrmS M D H fs none ∧ ValS M H (Tm M H D) xs ∧
  ∀ (b : Bool) (H' : Hp), Same H H' → (b = true → Fit M D H' fs xs) → Q (.bl b) H'
section
variable {P : Program} {w : World} {K : PySem.W.Frag} {mg : Str → Option Value} {base : Heap}
theorem inV_str {c : Str} : ∀ {cs : List Str}, inV (.str c) (cs.map V.str) = true → c ∈ cs
  | [], h => by simp [inV] at h
  | x :: cs, h => by
    unfold inV at h
    simp only [List.map_cons, List.any_cons, Bool.or_eq_true] at h
    rcases h with h | h
    · have : x = c := by simpa [eqV] using h
      rw [this]; exact List.mem_cons_self
    · exact List.mem_cons_of_mem _ (inV_str (cs := cs) h)
theorem alt_strs {H : Hp} {R : V → Prop} : ∀ {as : List V}, (∀ v ∈ as, ∃ c, Alt H R c v) → ∃ cs : List Str, cs.length = as.length ∧ ∀ (i : Nat) (v : V), as[i]? = some v → ∃ c, cs[i]? = some c ∧ Alt H R c v
  | [], _ => ⟨[], rfl, fun i v h => by simp at h⟩
  | v :: r, h => by
    obtain ⟨cs, h1, h2⟩ := alt_strs (as := r) fun u hu => h u (List.mem_cons_of_mem _ hu)
    obtain ⟨c, hc⟩ := h v List.mem_cons_self
    refine ⟨c :: cs, by simp [h1], fun i u hi => ?_⟩
    cases i with
    | zero =>
      have : v = u := by simpa using hi
      subst this
      exact ⟨c, rfl, hc⟩
    | succ j => exact h2 j u (by simpa using hi)
theorem ok_fits (T : Top K mg) : Keeps P w K mg base CX0 1 d_fits P_fits spFits := by
  obtain ⟨fd, F, bd⟩ := T.f_fits
  refine keeps0 F bd sc_fits (fun vs H Q E h => ?_) (fun cdv AA outer s H vs Q E hr h => ?_)
  · obtain ⟨M, D, f, a, fs, xs, rfl, _⟩ := h
    rfl
  obtain ⟨M, D, f, a, fs, xs, rfl, hf, ha, hfs, hxs, q⟩ := h
  refine ⟨_, (pss_cons (ps_if (pt_cmpR op_eq (pe_ix ix_tup (pv 0) pe_int (fun _ _ => rfl)) pe_str (nomark _))
    (pss_one (ps_ret (pe_cmpR op_eq (pe_ix ix_tup (pv 1) pe_int (fun _ _ => rfl)) pe_str (nomark _))))
    pss_nil)
    (pss_cons (ps_if (pt_cmpR op_eq (pe_ix ix_tup (pv 0) pe_int (fun _ _ => rfl)) pe_str (nomark _))
    (pss_one (ps_ret (pe_and (pe_cmpR op_eq (pe_ix ix_tup (pv 1) pe_int (fun _ _ => rfl)) pe_str (nomark _)) (pe_one (pe_cmpR op_in_seq (pe_ix ix_tup (pv 1) pe_int (fun _ _ => rfl)) (pe_lc (own := [("one", 2)]) (g := gName 2) rfl sc_fits.nd (pi_tup (pe_ix ix_tup (pv 0) pe_int (fun _ _ => rfl))) (blkOk_by (own := [("one", 2)]) (N := N_fits) (sc := d_fits.scope) (by decide +kernel)) (fun _ _ _ _ _ => (pg_name (i := 2) sc_fits.nd rfl (Or.inl rfl))) (fun _ _ _ _ _ => pts_nil) (fun _ _ _ _ _ => (pe_ix (show IxR _ (rIxT K) from ix_tup) (pv 2) pe_int (fun _ _ => rfl)))) rfl)))))
    pss_nil)
    (pss_cons (ps_if (pt_cmpR op_eq (pe_ix ix_tup (pv 0) pe_int (fun _ _ => rfl)) pe_str (nomark _))
    (pss_one (ps_ret pe_bl))
    pss_nil)
    (pss_one (ps_ret (pe_cmpR op_eq (pe_ix ix_tup (pv 1) pe_int (fun _ _ => rfl)) pe_str (nomark _))))))), ?_⟩
  have t0 : ∀ {b : Addr} {z : V} {zs : List V}, H b = some (.tup (z :: zs)) → SqT K H b (z :: zs) := fun h => SqT.of h
  cases hfs with
  | give x h =>
    refine ⟨_, rfl, f, _, _, _, rfl, rfl, SqT.of hf, rfl, rfl, _, rfl, ifT (by decide +kernel) ?_⟩
    cases hxs with
    | number i h0 h1 => exact ⟨_, rfl, a, _, _, _, rfl, rfl, SqT.of ha, rfl, rfl, q _ _ (Same.refl _) fun z => absurd z (by decide +kernel)⟩
    | fun_ y b hb => exact ⟨_, rfl, a, _, _, _, rfl, rfl, SqT.of ha, rfl, rfl, q _ _ (Same.refl _) fun _ => .give x y b h hb⟩
    | made c p ms hp hl hm hc => exact ⟨_, rfl, a, _, _, _, rfl, rfl, SqT.of ha, rfl, rfl, q _ _ (Same.refl _) fun z => absurd z (by decide +kernel)⟩
  | choose pa as h =>
    refine ⟨_, rfl, f, _, _, _, rfl, rfl, SqT.of hf, rfl, rfl, _, rfl, ifF (by decide +kernel) ?_⟩
    refine ⟨_, rfl, f, _, _, _, rfl, rfl, SqT.of hf, rfl, rfl, _, rfl, ifT (by decide +kernel) ?_⟩
    cases hxs with
    | number i h0 h1 => exact ⟨_, rfl, a, _, _, _, rfl, rfl, SqT.of ha, rfl, rfl, _, rfl, ifF (by decide +kernel) (q _ _ (Same.refl _) fun z => absurd z (by decide))⟩
    | fun_ y b hb => exact ⟨_, rfl, a, _, _, _, rfl, rfl, SqT.of ha, rfl, rfl, _, rfl, ifF (by decide +kernel) (q _ _ (Same.refl _) fun z => absurd z (by decide))⟩
    | made c p ms hp hl hm hc =>
      refine ⟨_, rfl, a, _, _, _, rfl, rfl, SqT.of ha, rfl, rfl, _, rfl, ifT (by decide +kernel) ?_⟩
      refine ⟨_, rfl, a, _, _, _, rfl, rfl, SqT.of ha, rfl, ?_⟩
      obtain ⟨cs, hc1, hc2⟩ := alt_strs h.2.2
      refine ⟨_, rfl, f, _, _, _, rfl, rfl, SqT.of hf, rfl, pa, rfl, ⟨as, SqT.of h.1⟩, fun L hL => ?_⟩
      refine lc_tup (K := K) (a := pa) (xs := as) (fun i G => Same H G ∧ G L = some (.lst ((cs.take i).map V.str))) ⟨same_new hL, upd_same⟩ (fun i G _ h' => sameT h'.1 (SqT.of h.1)) ?_ ?_
      · rintro i v G hi ⟨sG, g1⟩
        obtain ⟨c', hc', b, n, e, zs, rfl, hb, _⟩ := hc2 i v hi
        have hlt := (List.getElem?_eq_some_iff.mp hi).1
        have := h.2.1
        refine ⟨rfl, ?_⟩
        refine ⟨_, rfl, b, _, _, _, rfl, rfl, SqT.of (sG _ _ hb), rfl, _, g1, small1000 (by simp; omega), same_grow sG hL, ?_⟩
        rw [upd_same, take_snoc hc', List.map_append]
        rfl
      · rintro G ⟨sG, g1⟩
        rw [List.take_of_length_le (by omega)] at g1
        refine ⟨L, cs.map V.str, rfl, .inl (SqL.of g1), rfl, all_strs cs, q _ _ sG fun hi => ?_⟩
        have hin := inV_str (c := c) (cs := cs) hi
        obtain ⟨j, hj, ej⟩ := List.mem_iff_getElem.mp hin
        have hj2 : j < as.length := by omega
        obtain ⟨c', hc', hal⟩ := hc2 j as[j] (List.getElem?_eq_getElem hj2)
        rw [List.getElem?_eq_getElem hj, ej] at hc'
        cases hc'
        have k := sameTupK sG
        exact .choose pa as c p ms (h.mono (fun _ z => z) k) (k _ _ hp) hl (fun m z => (hm m z).mono (fun _ z => z) k) ⟨as[j], List.getElem_mem hj2, alt_same hal k⟩
  | left op x h =>
    refine ⟨_, rfl, f, _, _, _, rfl, rfl, SqT.of hf, rfl, rfl, _, rfl, ifF (by decide +kernel) ?_⟩
    refine ⟨_, rfl, f, _, _, _, rfl, rfl, SqT.of hf, rfl, rfl, _, rfl, ifF (by decide +kernel) ?_⟩
    refine ⟨_, rfl, f, _, _, _, rfl, rfl, SqT.of hf, rfl, rfl, _, rfl, ifF (by decide +kernel) ?_⟩
    cases hxs with
    | number i h0 h1 => exact ⟨_, rfl, a, _, _, _, rfl, rfl, SqT.of ha, rfl, rfl, q _ _ (Same.refl _) fun z => .left op x i h h0 h1⟩
    | fun_ y b hb => exact ⟨_, rfl, a, _, _, _, rfl, rfl, SqT.of ha, rfl, rfl, q _ _ (Same.refl _) fun z => absurd z (by decide +kernel)⟩
    | made c p ms hp hl hm hc => exact ⟨_, rfl, a, _, _, _, rfl, rfl, SqT.of ha, rfl, rfl, q _ _ (Same.refl _) fun z => absurd z (by decide +kernel)⟩
  | right op i g0 g1 =>
    refine ⟨_, rfl, f, _, _, _, rfl, rfl, SqT.of hf, rfl, rfl, _, rfl, ifF (by decide +kernel) ?_⟩
    refine ⟨_, rfl, f, _, _, _, rfl, rfl, SqT.of hf, rfl, rfl, _, rfl, ifF (by decide +kernel) ?_⟩
    refine ⟨_, rfl, f, _, _, _, rfl, rfl, SqT.of hf, rfl, rfl, _, rfl, ifF (by decide +kernel) ?_⟩
    cases hxs with
    | number j h0 h1 => exact ⟨_, rfl, a, _, _, _, rfl, rfl, SqT.of ha, rfl, rfl, q _ _ (Same.refl _) fun z => .right op i j g0 g1 h0 h1⟩
    | fun_ y b hb => exact ⟨_, rfl, a, _, _, _, rfl, rfl, SqT.of ha, rfl, rfl, q _ _ (Same.refl _) fun z => absurd z (by decide +kernel)⟩
    | made c p ms hp hl hm hc => exact ⟨_, rfl, a, _, _, _, rfl, rfl, SqT.of ha, rfl, rfl, q _ _ (Same.refl _) fun z => absurd z (by decide +kernel)⟩
  | then_ x h =>
    refine ⟨_, rfl, f, _, _, _, rfl, rfl, SqT.of hf, rfl, rfl, _, rfl, ifF (by decide +kernel) ?_⟩
    refine ⟨_, rfl, f, _, _, _, rfl, rfl, SqT.of hf, rfl, rfl, _, rfl, ifF (by decide +kernel) ?_⟩
    refine ⟨_, rfl, f, _, _, _, rfl, rfl, SqT.of hf, rfl, rfl, _, rfl, ifT (by decide +kernel) ?_⟩
    exact q _ _ (Same.refl _) fun _ => .then_ x xs h hxs
end
end W83

namespace W83
open PySem PySem.Spec PyProof.Rows L2
abbrev N_settled : List Str := ["runner", "frame"]
abbrev P_settled : List Str := ["runner"]
theorem sc_settled : FnScope N_settled P_settled d_settled.scope := ⟨rfl, rfl, rfl, by decide +kernel, rfl, by decide +kernel, by decide +kernel⟩

structure StP (K : PySem.W.Frag) (A : Ad) (D : Nat) (M : Nat → Prop) (H : Hp) (S : S83) (t : Nat) (pl : List (Option Nat)) (b : Bool) (hv : Nat) : Prop where
  core : Core K A D M H S t pl
  full : Full M S
  time : t ≤ S.steps
  hand : (S.hand = .non ∧ hv = 0 ∧ S.pile = []) ∨ (Nv M D H S.hand ∧ hv = 0) ∨ (Val M D H S.hand ∧ hv = 1)
  rest : (b = true ∧ S.hand = .non ∧ S.words = [] ∧ ∃ v, S.rest = [v] ∧ PartE H (Tm M H D) v) ∨ (b = false ∧ ∀ v ∈ S.rest, RestE M H v)
  bl : S.labels.length ≤ 6 * S.steps
  bg : S.log.length + S.pile.length ≤ 20 * S.steps
  bt : S.things.length + S.pile.length ≤ 20 * S.steps
  bw : S.words.length + S.rest.length + 6 * hv ≤ 10 * S.steps + 10
  ws : ∀ x ∈ S.words, x.length ≤ 21
/-- a step may be taken -/
inductive Go (M : Nat → Prop) (D : Nat) (H : Hp) (hd : V) (pile : List V) : Prop
  | nv (a : Addr) (xs : List V) (e : hd = .ref a) (h : H a = some (.tup xs)) (hs : NvS M H (Tm M H D) xs) (n1 : xs.head? ≠ some (.str "stop")) (n2 : xs.head? ≠ some (.str "name")) : Go M D H hd pile
  | val (a f : Addr) (xs fs ps : List V) (e : hd = .ref a) (h : H a = some (.tup xs)) (hs : ValS M H (Tm M H D) xs) (ep : pile = ps ++ [.ref f]) (hf : H f = some (.tup fs)) (ft : Fit M D H fs xs) : Go M D H hd pile
def SW (M : Nat → Prop) (D : Nat) (H : Hp) (S : S83) (word : Str) : Prop :=
  (word = "told" ∧ S.pile = []) ∨ (word = "stop" ∧ ∃ a, ∃ x : Str, S.hand = .ref a ∧ H a = some (.tup [.str "stop", .str x])) ∨ word = "stuck" ∨ (word = "" ∧ Go M D H S.hand S.pile)
def spSettled (K : PySem.W.Frag) : Sp := fun vs H Q _ => ∃ (A : Ad) (D : Nat) (M : Nat → Prop) (S : S83) (t : Nat) (pl : List (Option Nat)) (b : Bool) (hv : Nat), vs = [.ref A.m] ∧ StP K A D M H S t pl b hv ∧ S.steps ≤ 1000 ∧
  ∀ (word : Str) (H' : Hp) (S' : S83) (t' : Nat) (pl' : List (Option Nat)) (b' : Bool) (hv' : Nat), StP K A D M H' S' t' pl' b' hv' → S'.steps = S.steps → S'.ended = S.ended → SW M D H' S' word → Q (.str word) H'
def meas (S : S83) (b : Bool) (hv : Nat) : Nat := S.pile.length + S.rest.length + 10 * hv + 20 * (if b = true then 1 else 0)
section
variable {P : Program} {w : World} {K : PySem.W.Frag} {mg : Str → Option Value} {base : Heap} {A : Ad} {D : Nat} {M : Nat → Prop} {H H' : Hp} {S : S83} {t : Nat} {pl : List (Option Nat)} {b : Bool} {hv : Nat}
theorem StP.same (s : StP K A D M H S t pl b hv) (e : Same H H') : StP K A D M H' S t pl b hv := by
  have k := sameTupK e
  refine ⟨s.core.keep (fun _ z => z) (s.core.lay.same e) (Mv.same e), s.full, s.time, ?_, ?_, s.bl, s.bg, s.bt, s.bw, s.ws⟩
  · rcases s.hand with h | ⟨h, e⟩ | ⟨h, e⟩
    · exact .inl h
    · exact .inr (.inl ⟨h.mono (fun _ z => z) k, e⟩)
    · exact .inr (.inr ⟨h.mono (fun _ z => z) k, e⟩)
  · rcases s.rest with ⟨h1, h2, h3, v, h4, a, m, d, h5, h6, h7⟩ | ⟨h1, h2⟩
    · exact .inl ⟨h1, h2, h3, v, h4, a, m, d, h5, k _ _ h6, h7.keep k⟩
    · exact .inr ⟨h1, fun v hv => (h2 v hv).mono (fun _ z => z) k⟩
theorem StP.rest0 (s : StP K A D M H S t pl b hv) (h : S.hand ≠ .non) : b = false ∧ ∀ v ∈ S.rest, RestE M H v := by
  rcases s.rest with ⟨_, h2, _⟩ | h2
  · exact absurd h2 h
  · exact h2
theorem full_put {k : Nat} {x : Addr} (F : Full M S) (S' : S83) (e : S'.things = putK S.things (.inl ((k : Nat) : Int)) (.ref x)) : Full M S' := fun j hj => by
  obtain ⟨a, ha⟩ := F j hj
  rw [e, valV_put]
  by_cases c : (Sum.inl ((j : Nat) : Int) : Key) = .inl ((k : Nat) : Int)
  · exact ⟨x, by rw [if_pos c]⟩
  · exact ⟨a, by rw [if_neg c]; exact ha⟩
theorem hd_ne {x y : Str} {r : List V} (h : decide (x = y) = false) : (V.str x :: r).head? ≠ some (.str y) := fun z => by
  have e : x = y := by simpa using z
  rw [e] at h
  simp at h
theorem ok_settled (T : Top K mg) : Keeps P w K mg base CX0 4 d_settled P_settled (spSettled K) := by
  obtain ⟨fd, F, bd⟩ := T.f_settled
  obtain ⟨_, G_take_up⟩ := ok_take_up (P := P) (w := w) (base := base) T
  obtain ⟨_, G_tell⟩ := ok_tell (P := P) (w := w) (base := base) T
  obtain ⟨_, G_Machine_back⟩ := ok_back (P := P) (w := w) (base := base) T
  obtain ⟨_, G_fits⟩ := ok_fits (P := P) (w := w) (base := base) T
  refine keeps0 F bd sc_settled (fun vs H Q E h => ?_) (fun cdv AA outer s H vs Q E hr h => ?_)
  · obtain ⟨A, D, M, S, t, pl, b, hv, rfl, _⟩ := h
    rfl
  obtain ⟨A, D, M, S0, t0, pl0, b0, hv0, rfl, s0, hst, q⟩ := h
  refine ⟨_, (pss_one (ps_while PassesOwn.never (pt_val pe_bl)
    (pss_one (ps_if (pt_cmpR op_isN (pe_fld (pv 0) rfl) pe_non (nomark _))
    (pss_cons (ps_if (pt_cmpR op_eq (pe_callB call_len_seq (by rfl) T.z_len PySem.boot_len (pa_cons (pe_fld (pv 0) rfl) pa_nil)) pe_int (nomark _))
    (pss_one (ps_ret pe_str))
    pss_nil)
    (pss_one (ps_expr (pe_call G_take_up.ok (hr.mono (by decide)) rfl T.g_take_up G_take_up.kp G_take_up.bd .nil pass0 (pa_cons (pv 0) pa_nil)))))
    (pss_one (ps_if (pt_cmpR op_notIn_seq (pe_ix ix_tup (pe_fld (pv 0) rfl) pe_int (fun _ _ => rfl)) (pe_glob (v := V.ref (He.ga K "VALUES")) rfl T.g_VALUES rfl) rfl)
    (pss_cons (ps_if (pt_cmpR op_eq (pe_ix ix_tup (pe_fld (pv 0) rfl) pe_int (fun _ _ => rfl)) pe_str (nomark _))
    (pss_one (ps_ret pe_str))
    pss_nil)
    (pss_cons (ps_if (pt_cmpR op_in_seq (pe_ix ix_tup (pe_fld (pv 0) rfl) pe_int (fun _ _ => rfl)) (pe_lst (pa_cons pe_str (pa_cons pe_str pa_nil))) rfl)
    (pss_one (ps_ret pe_str))
    pss_nil)
    (pss_one (ps_ret pe_str))))
    (pss_one (ps_if (pt_cmpR op_eq (pe_callB call_len_seq (by rfl) T.z_len PySem.boot_len (pa_cons (pe_fld (pv 0) rfl) pa_nil)) pe_int (nomark _))
    (pss_one (ps_expr (pe_call G_tell.ok (hr.mono (by decide)) rfl T.g_tell G_tell.kp G_tell.bd .nil pass0 (pa_cons (pv 0) pa_nil))))
    (pss_one (ps_if (pt_cmpR op_eq (pe_ix ix_tup (pe_ix ix_list (pe_fld (pv 0) rfl) (pe_un un_neg pe_int) (fun _ _ => rfl)) pe_int (fun _ _ => rfl)) pe_str (nomark _))
    (pss_cons (ps_set (i := 1) sc_settled.nd rfl (Or.inl rfl) (pe_bm0 PySem.F.plainAttrs_list PySem.F.slot_list_pop PySem.F.type_list_pop mt_pop (pe_fld (pv 0) rfl)))
    (pss_one (ps_expr (pe_meth (pv 0) T.c_Machine T.m_back G_Machine_back.ok (hr.mono (by decide)) G_Machine_back.bd .nil pass0 (pa_cons (pe_ix ix_tup (pv 1) pe_int (fun _ _ => rfl)) pa_nil)))))
    (pss_one (ps_if (pt_val (pe_call G_fits.ok (hr.mono (by decide)) rfl T.g_fits G_fits.kp G_fits.bd .nil pass0 (pa_cons (pe_ix ix_list (pe_fld (pv 0) rfl) (pe_un un_neg pe_int) (fun _ _ => rfl)) (pa_cons (pe_fld (pv 0) rfl) pa_nil))))
    (pss_one (ps_ret pe_str))
    (pss_one (ps_ret pe_str)))))))))))))), ?_⟩
  refine ⟨fun m σ G => ∃ v1 S t pl b hv, σ = [some (.ref A.m), v1] ∧ StP K A D M G S t pl b hv ∧ S.steps = S0.steps ∧ S.ended = S0.ended ∧ m = meas S b hv, ⟨_, _, S0, t0, pl0, b0, hv0, rfl, s0, rfl, rfl, rfl⟩, ?_⟩
  rintro m σ G ⟨v1, S, t, pl, b, hv, rfl, s, es, ee, rfl⟩
  have L := s.core.lay
  refine ⟨true, rfl, ifT rfl ?_⟩
  refine ⟨fun σ G' => ∃ m', m' < meas S b hv ∧ ∃ v1 S t pl b hv, σ = [some (.ref A.m), v1] ∧ StP K A D M G' S t pl b hv ∧ S.steps = S0.steps ∧ S.ended = S0.ended ∧ m' = meas S b hv, fun σ' H' h => h, ?_⟩
  refine ⟨_, rfl, A.m, _, _, _, _, rfl, L.ob, T.c_Machine, T.n_Machine_hand, fl_hand, rfl, ?_⟩
  have bw := s.bw
  have bl := s.bl
  have bg := s.bg
  have bt := s.bt
  rcases s.hand with ⟨hh, rfl, hpile⟩ | ⟨hh, rfl⟩ | ⟨hh, rfl⟩
  · -- the hand is empty
    refine ⟨true, by rw [hh]; rfl, ifT rfl ?_⟩
    refine ⟨_, rfl, A.m, _, _, _, _, rfl, L.ob, T.c_Machine, T.n_Machine_rest, fl_rest, A.ra, _, rfl, .inl (SqL.of L.re), rfl, _, rfl, ifB (fun e => ?_) (fun e => ?_)⟩
    · exact q "told" G S t pl b 0 s es ee (.inl ⟨rfl, hpile⟩)
    · have hne : S.rest.length ≠ 0 := fun z => by rw [z] at e; exact absurd e (by decide)
      obtain ⟨rs, v, er⟩ := snocL (n := S.rest.length - 1) (l := S.rest) (by omega)
      have lr : S.rest.length = rs.length + 1 := by rw [er]; simp
      rcases s.rest with ⟨rfl, _, hwo, v', hrv, hpart⟩ | ⟨rfl, hall⟩
      · -- the first
        have l0 : rs = [] := by
          rw [hrv] at lr
          exact List.eq_nil_of_length_eq_zero (by simpa using lr.symm)
        subst l0
        have : v' = v := by
          rw [er] at hrv
          simpa using hrv.symm
        subst this
        have w0 : S.words.length = 0 := by rw [hwo]; rfl
        refine ⟨_, rfl, A, S, [], v', Tm M G D, rfl, L, er, .inr hpart, by omega, fun x H' m L' hx => ?_, fun y d H' _ hy m L' => ?_⟩
        · refine ⟨_, ?_, _, _, t, pl, false, 0, rfl, ⟨s.core.keep (fun _ z => z) L' m, s.full, s.time, .inl ⟨hh, rfl, hpile⟩, .inr ⟨rfl, fun v hv => by cases hv⟩, bl, bg, bt, ?_, ?_⟩, es, ee, rfl⟩
          · simp only [meas, er]; simp <;> omega
          · simp [hwo]
          · simp only [hwo, List.nil_append, List.mem_singleton]
            rintro z rfl
            exact hx
        · have hy' := hy.keep (L.tupK m)
          rcases hy'.two with h | h
          · refine ⟨_, ?_, _, _, t, pl, false, 0, rfl, ⟨s.core.keep (fun _ z => z) L' m, s.full, s.time, .inr (.inl ⟨h, rfl⟩), .inr ⟨rfl, fun v hv => by cases hv⟩, bl, bg, bt, ?_, s.ws⟩, es, ee, rfl⟩
            · simp only [meas, er]; simp <;> omega
            · simp [hwo]
          · refine ⟨_, ?_, _, _, t, pl, false, 1, rfl, ⟨s.core.keep (fun _ z => z) L' m, s.full, s.time, .inr (.inr ⟨h, rfl⟩), .inr ⟨rfl, fun v hv => by cases hv⟩, bl, bg, bt, ?_, s.ws⟩, es, ee, rfl⟩
            · simp only [meas, er]; simp <;> omega
            · simp [hwo] <;> omega
      · have hv := hall v (by rw [er]; simp)
        have hrs : ∀ u ∈ rs, RestE M G u := fun u hu => hall u (by rw [er]; exact List.mem_append_left _ hu)
        refine ⟨_, rfl, A, S, rs, v, Mrk M G, rfl, L, er, hv, by omega, fun x H' m L' hx => ?_, fun y d H' _ hy m L' => ?_⟩
        · refine ⟨_, ?_, _, _, t, pl, false, 0, rfl, ⟨s.core.keep (fun _ z => z) L' m, s.full, s.time, .inl ⟨hh, rfl, hpile⟩, .inr ⟨rfl, fun v hv => (hrs v hv).mono (fun _ z => z) (L.tupK m)⟩, bl, bg, bt, ?_, ?_⟩, es, ee, rfl⟩
          · simp only [meas, lr]; omega
          · show (S.words ++ [x]).length + rs.length + 6 * 0 ≤ _
            rw [List.length_append, List.length_singleton]
            show _ ≤ 10 * S.steps + 10
            omega
          · intro z hz
            rcases List.mem_append.mp hz with e | e
            · exact s.ws z e
            · rw [List.mem_singleton.mp e]; exact hx
        · obtain ⟨c, k, rfl, hk, hc⟩ := hy
          have hc' := (L.tupK m) _ _ hc
          refine ⟨_, ?_, _, _, t, pl, false, 0, rfl, ⟨s.core.keep (fun _ z => z) L' m, s.full, s.time, .inr (.inl ⟨⟨c, _, rfl, hc', .at_ k hk⟩, rfl⟩), .inr ⟨rfl, fun v hv => (hrs v hv).mono (fun _ z => z) (L.tupK m)⟩, bl, bg, bt, ?_, s.ws⟩, es, ee, rfl⟩
          · simp only [meas, lr]; omega
          · show S.words.length + rs.length + 6 * 0 ≤ 10 * S.steps + 10
            omega
  · -- no value
    obtain ⟨a, xs, ha, hxs, hs⟩ := hh
    have hnn : S.hand ≠ .non := by rw [ha]; intro z; cases z
    refine ⟨false, by rw [ha]; rfl, ifF rfl ?_⟩
    refine ⟨_, rfl, A.m, _, _, _, _, rfl, L.ob, T.c_Machine, T.n_Machine_hand, fl_hand, ?_⟩
    rw [ha]
    have go : ∀ word, SW M D G S word → Q (.str word) G := fun word h => q word G S t pl b 0 s es ee h
    have hs0 := hs
    cases hs
    case stop x =>
      refine ⟨a, _, _, _, rfl, rfl, SqT.of hxs, rfl, _, _, rfl, .inr (T.x.vals _), rfl, rfl, _, rfl, ifT (by decide +kernel) ?_⟩
      refine ⟨_, rfl, A.m, _, _, _, _, rfl, L.ob, T.c_Machine, T.n_Machine_hand, fl_hand, ?_⟩
      rw [ha]
      refine ⟨a, _, _, _, rfl, rfl, SqT.of hxs, rfl, rfl, _, rfl, ifT (by decide +kernel) ?_⟩
      exact go "stop" (.inr (.inl ⟨rfl, a, x, ha, hxs⟩))
    case name x =>
      refine ⟨a, _, _, _, rfl, rfl, SqT.of hxs, rfl, _, _, rfl, .inr (T.x.vals _), rfl, rfl, _, rfl, ifT (by decide +kernel) ?_⟩
      refine ⟨_, rfl, A.m, _, _, _, _, rfl, L.ob, T.c_Machine, T.n_Machine_hand, fl_hand, ?_⟩
      rw [ha]
      refine ⟨a, _, _, _, rfl, rfl, SqT.of hxs, rfl, rfl, _, rfl, ifF (by decide +kernel) ?_⟩
      refine ⟨_, rfl, A.m, _, _, _, _, rfl, L.ob, T.c_Machine, T.n_Machine_hand, fl_hand, ?_⟩
      rw [ha]
      refine ⟨a, _, _, _, rfl, rfl, SqT.of hxs, rfl, small50 (by simp), fun L2 hL2 => ?_⟩
      have e2 := same_new (o := .lst [.str "name", .str "rows"]) hL2
      refine ⟨L2, _, rfl, .inl (SqL.of upd_same), rfl, rfl, _, rfl, ifT (by decide +kernel) ?_⟩
      exact q "stuck" _ S t pl b 0 (s.same e2) es ee (.inr (.inr (.inl rfl)))
    all_goals
      refine ⟨a, _, _, _, rfl, rfl, SqT.of hxs, rfl, _, _, rfl, .inr (T.x.vals _), rfl, rfl, _, rfl, ifT (by decide +kernel) ?_⟩
      refine ⟨_, rfl, A.m, _, _, _, _, rfl, L.ob, T.c_Machine, T.n_Machine_hand, fl_hand, ?_⟩
      rw [ha]
      refine ⟨a, _, _, _, rfl, rfl, SqT.of hxs, rfl, rfl, _, rfl, ifF (by decide +kernel) ?_⟩
      refine ⟨_, rfl, A.m, _, _, _, _, rfl, L.ob, T.c_Machine, T.n_Machine_hand, fl_hand, ?_⟩
      rw [ha]
      refine ⟨a, _, _, _, rfl, rfl, SqT.of hxs, rfl, small50 (by simp), fun L2 hL2 => ?_⟩
      have e2 := same_new (o := .lst [.str "name", .str "rows"]) hL2
      refine ⟨L2, _, rfl, .inl (SqL.of upd_same), rfl, rfl, _, rfl, ifF (by decide +kernel) ?_⟩
      have k2 := sameTupK e2
      exact q "" _ S t pl b 0 (s.same e2) es ee (.inr (.inr (.inr ⟨rfl, .nv a _ ha (e2 _ _ hxs) (hs0.mono (fun _ z => z) k2 fun _ z => z.keep k2) (hd_ne (by decide +kernel)) (hd_ne (by decide +kernel))⟩)))
  · -- a value
    obtain ⟨a, xs, ha, hxs, hs⟩ := hh
    have hnn : S.hand ≠ .non := by rw [ha]; intro z; cases z
    obtain ⟨rfl, hrest⟩ := s.rest0 hnn
    refine ⟨false, by rw [ha]; rfl, ifF rfl ?_⟩
    refine ⟨_, rfl, A.m, _, _, _, _, rfl, L.ob, T.c_Machine, T.n_Machine_hand, fl_hand, ?_⟩
    rw [ha]
    have inv : ∃ x r, xs = V.str x :: r ∧ inV (.str x) [.str "number", .str "fun", .str "made"] = true := by
      cases hs with
      | number i h0 h1 => exact ⟨_, _, rfl, by decide +kernel⟩
      | fun_ x b hb => exact ⟨_, _, rfl, by decide +kernel⟩
      | made c p ms hp hl hm hc => exact ⟨_, _, rfl, by decide +kernel⟩
    obtain ⟨x0, r0, ex, hin⟩ := inv
    refine ⟨a, _, _, .str x0, rfl, rfl, SqT.of hxs, by rw [ex]; exact at_get (i := 0) rfl, _, _, rfl, .inr (T.x.vals _), rfl, rfl, _, rfl, ifF (by rw [if_pos rfl, hin]; rfl) ?_⟩
    refine ⟨_, rfl, A.m, _, _, _, _, rfl, L.ob, T.c_Machine, T.n_Machine_pile, fl_pile, A.pa, _, rfl, .inl (SqL.of L.pi), rfl, _, rfl, ifB (fun e => ?_) (fun e => ?_)⟩
    · -- tell
      have hp0 : S.pile = [] := by
        have : S.pile.length = 0 := by
          have z : V.int ((S.pile.length : Nat) : Int) = .int 0 := of_decide_eq_true e
          injection z with z
          omega
        exact List.eq_nil_of_length_eq_zero this
      refine ⟨_, rfl, A, S, M, D, rfl, L, ⟨a, xs, ha, hxs, hs⟩, by omega, by omega, fun x rs H' m L' hx hr hrs => ?_⟩
      refine ⟨_, ?_, _, _, t, pl, false, 0, rfl, ⟨s.core.keep (fun _ z => z) L' m, s.full, s.time, .inl ⟨rfl, rfl, hp0⟩, .inr ⟨rfl, fun v hv => ?_⟩, bl, bg, bt, ?_, ?_⟩, es, ee, rfl⟩
      · show S.pile.length + (S.rest ++ rs).length + 10 * 0 + _ < _
        simp only [meas, List.length_append]
        omega
      · rcases List.mem_append.mp hv with e | e
        · exact (hrest v e).mono (fun _ z => z) (L.tupK m)
        · exact hrs v e
      · show (S.words ++ [x]).length + (S.rest ++ rs).length + 6 * 0 ≤ _
        rw [List.length_append, List.length_singleton, List.length_append]
        show _ ≤ 10 * S.steps + 10
        omega
      · intro z hz
        rcases List.mem_append.mp hz with e | e
        · exact s.ws z e
        · rw [List.mem_singleton.mp e]; exact hx
    · have hne : S.pile.length ≠ 0 := fun z => by rw [z] at e; exact absurd e (by decide)
      obtain ⟨ps, v, er⟩ := snocL (n := S.pile.length - 1) (l := S.pile) (by omega)
      have lr : S.pile.length = ps.length + 1 := by rw [er]; simp
      obtain ⟨ql, p, epl, lq, f, fs, rfl, hf, hfr⟩ := s.core.top er
      have hpi := L.pi
      have hat : atI S.pile (-1) = some (.ref f) := by rw [er]; exact atI_last ps _
      refine ⟨_, rfl, A.m, _, _, _, _, rfl, L.ob, T.c_Machine, T.n_Machine_pile, fl_pile, ⟨_, rfl, A.pa, _, _, _, rfl, rfl, SqL.of L.pi, hat, ?_⟩⟩
      have hfr0 := hfr
      cases hfr
      case back k =>
        refine ⟨f, _, _, _, rfl, rfl, SqT.of hf, rfl, rfl, _, rfl, ifT (by decide +kernel) ?_⟩
        rw [er] at hpi
        refine ⟨_, rfl, A.m, _, _, _, _, rfl, L.ob, T.c_Machine, T.n_Machine_pile, fl_pile, .inl ⟨rfl, _, SqL.of L.pi⟩, A.pa, _, _, rfl, rfl, hpi, lastA, ?_⟩
        rw [List.dropLast_concat]
        have L1 := L.pile ps
        have hf1 := (L.tupK (mvp (o := .lst ps))) _ _ hf
        obtain ⟨l, _, _, _, hl, _⟩ := s.core.onWay epl
        refine ⟨_, rfl, A.m, _, _, rfl, L1.ob, fl_back, _, rfl, f, _, _, _, rfl, rfl, SqT.of hf1, rfl, ?_⟩
        refine ⟨A, _, k, l, rfl, L1, hl, by show S.log.length ≤ _; omega, by show S.things.length ≤ _; omega, fun v' x dx H' m L' hx => ?_⟩
        have mm := (mvp (H := G) (o := .lst ps)).trans m
        have hval : Val M D G S.hand := ⟨a, xs, ha, hxs, hs⟩
        have C' := s.core.back s.time er epl hl hval mm L' hx
        have kk := L.tupK mm
        have pl1 := putK_len S.things (.inl ((k : Nat) : Int)) (.ref x)
        refine ⟨_, ?_, _, _, _, ql, false, 1, rfl, ⟨C', full_put s.full _ rfl, Nat.le_refl _, .inr (.inr ⟨hval.mono (fun _ z => z) kk, rfl⟩), .inr ⟨rfl, fun v hv => (hrest v hv).mono (fun _ z => z) kk⟩, bl, ?_, ?_, bw, s.ws⟩, es, ee, rfl⟩
        · show ps.length + S.rest.length + 10 * 1 + _ < _
          simp only [meas]
          omega
        · show (S.log ++ [_]).length + ps.length ≤ 20 * S.steps
          rw [List.length_append, List.length_singleton]
          omega
        · show (putK S.things (.inl ((k : Nat) : Int)) (.ref x)).length + ps.length ≤ 20 * S.steps
          omega
      all_goals
        refine ⟨f, _, _, _, rfl, rfl, SqT.of hf, rfl, rfl, _, rfl, ifF (by decide +kernel) ?_⟩
        refine ⟨_, rfl, A.m, _, _, _, _, rfl, L.ob, T.c_Machine, T.n_Machine_pile, fl_pile, ⟨_, rfl, A.pa, _, _, _, rfl, rfl, SqL.of L.pi, hat, ?_⟩⟩
        refine ⟨_, rfl, A.m, _, _, _, _, rfl, L.ob, T.c_Machine, T.n_Machine_hand, fl_hand, ?_⟩
        rw [ha]
        refine ⟨M, D, f, a, _, xs, rfl, hf, hxs, hfr0, hs, fun c H' e2 hfit => ?_⟩
        have k2 := sameTupK e2
        refine ⟨_, rfl, ifB (fun hc => ?_) (fun hc => ?_)⟩
        · exact q "" _ S t pl false 1 (s.same e2) es ee (.inr (.inr (.inr ⟨rfl, .val a f xs _ ps ha (e2 _ _ hxs) (hs.mono (fun _ z => z) k2 fun _ z => z.keep k2) er (e2 _ _ hf) (hfit hc)⟩)))
        · exact q "stuck" _ S t pl false 1 (s.same e2) es ee (.inr (.inr (.inl rfl)))
end
end W83

namespace W83
open PySem PySem.Spec PyProof.Rows L2
abbrev N_opened : List Str := ["runner", "frame", "part"]
abbrev P_opened : List Str := ["runner", "frame", "part"]
theorem sc_opened : FnScope N_opened P_opened d_opened.scope := ⟨rfl, rfl, rfl, by decide +kernel, rfl, by decide +kernel, by decide +kernel⟩

abbrev N_Machine_born_all : List Str := ["self", "pairs", "marks", "pair", "name", "text"]
abbrev P_Machine_born_all : List Str := ["self", "pairs"]
theorem sc_Machine_born_all : FnScope N_Machine_born_all P_Machine_born_all d_Machine_born_all.scope := ⟨rfl, rfl, rfl, by decide +kernel, rfl, by decide +kernel, by decide +kernel⟩

structure PreB (B : Nat) (K : PySem.W.Frag) (A : Ad) (D : Nat) (M : Nat → Prop) (H : Hp) (S : S83) (t : Nat) (pl : List (Option Nat)) : Prop where
  core : Core K A D M H S t pl
  full : Full M S
  time : t ≤ S.steps
  la : S.labels.length ≤ B
  lg : S.log.length ≤ B
  th : S.things.length ≤ B
  pi : S.pile.length ≤ B
abbrev Pre (K : PySem.W.Frag) (A : Ad) (D : Nat) (M : Nat → Prop) (H : Hp) (S : S83) (t : Nat) (pl : List (Option Nat)) : Prop := PreB 30000 K A D M H S t pl
structure Grow (n : Nat) (S S' : S83) : Prop where
  rest : S'.rest = S.rest
  words : S'.words = S.words
  steps : S'.steps = S.steps
  ended : S'.ended = S.ended
  la : S'.labels.length ≤ S.labels.length + n
  lg : S'.log.length ≤ S.log.length + n
  th : S'.things.length ≤ S.things.length + n
  pi : S'.pile.length ≤ S.pile.length + n
theorem Grow.trans {n m : Nat} {S S1 S2 : S83} (a : Grow n S S1) (b : Grow m S1 S2) : Grow (n + m) S S2 :=
  ⟨b.rest.trans a.rest, b.words.trans a.words, b.steps.trans a.steps, b.ended.trans a.ended, by have := a.la; have := b.la; omega, by have := a.lg; have := b.lg; omega, by have := a.th; have := b.th; omega, by have := a.pi; have := b.pi; omega⟩
theorem Grow.refl {S : S83} : Grow 0 S S := ⟨rfl, rfl, rfl, rfl, Nat.le_refl _, Nat.le_refl _, Nat.le_refl _, Nat.le_refl _⟩
theorem Grow.mono {n m : Nat} {S S' : S83} (a : Grow n S S') (h : n ≤ m) : Grow m S S' :=
  ⟨a.rest, a.words, a.steps, a.ended, by have := a.la; omega, by have := a.lg; omega, by have := a.th; omega, by have := a.pi; omega⟩
structure Res (K : PySem.W.Frag) (A : Ad) (D n : Nat) (M : Nat → Prop) (H : Hp) (S : S83) (M' : Nat → Prop) (H' : Hp) (S' : S83) (t' : Nat) (pl' : List (Option Nat)) : Prop where
  core : Core K A D M' H' S' t' pl'
  full : Full M' S'
  time : t' ≤ S'.steps
  mono : ∀ k, M k → M' k
  mv : Mv A H H'
  gr : Grow n S S'
theorem Res.trans {K : PySem.W.Frag} {A : Ad} {D n m : Nat} {M M1 M2 : Nat → Prop} {H H1 H2 : Hp} {S S1 S2 : S83} {t1 t2 : Nat} {pl1 pl2 : List (Option Nat)} (a : Res K A D n M H S M1 H1 S1 t1 pl1) (b : Res K A D m M1 H1 S1 M2 H2 S2 t2 pl2) : Res K A D (n + m) M H S M2 H2 S2 t2 pl2 :=
  ⟨b.core, b.full, b.time, fun k h => b.mono k (a.mono k h), a.mv.trans b.mv, a.gr.trans b.gr⟩
theorem Res.more {K : PySem.W.Frag} {A : Ad} {D n m : Nat} {M M1 : Nat → Prop} {H H1 : Hp} {S S1 : S83} {t1 : Nat} {pl1 : List (Option Nat)} (a : Res K A D n M H S M1 H1 S1 t1 pl1) (h : n ≤ m) : Res K A D m M H S M1 H1 S1 t1 pl1 :=
  ⟨a.core, a.full, a.time, a.mono, a.mv, a.gr.mono h⟩
def spOpened (K : PySem.W.Frag) : Sp := fun vs H Q _ => ∃ (A : Ad) (S : S83) (f y : V), vs = [.ref A.m, f, y] ∧ Lay K A H S ∧ S.pile.length ≤ 50000 ∧ ∀ H', Mv A H H' → Lay K A H' { S with pile := S.pile ++ [f], hand := y } → Q .non H'
def spBornAll (K : PySem.W.Frag) (D : Nat) : Sp := fun vs H Q _ => ∃ (A : Ad) (M : Nat → Prop) (S : S83) (t : Nat) (pl : List (Option Nat)) (p : Addr) (prs : List V), vs = [.ref A.m, .ref p] ∧ Pre K A D M H S t pl ∧ H p = some (.tup prs) ∧ prs.length ≤ 6 ∧ (∀ v ∈ prs, Prr H (Tm M H D) v) ∧
  ∀ (M' : Nat → Prop) (H' : Hp) (S' : S83) (t' : Nat) (dm : Addr) (kvs : List (Key × V)), Res K A D 6 M H S M' H' S' t' pl → S'.hand = S.hand → MarksD M' H' dm kvs → Q (.ref dm) H'
section
variable {P : Program} {w : World} {K : PySem.W.Frag} {mg : Str → Option Value} {base : Heap} {A : Ad} {D : Nat} {M : Nat → Prop} {H H' : Hp} {S : S83} {t : Nat} {pl : List (Option Nat)} {b : Bool} {hv : Nat}
theorem ok_opened (T : Top K mg) : Keeps P w K mg base CX0 1 d_opened P_opened (spOpened K) := by
  obtain ⟨fd, F, bd⟩ := T.f_opened
  refine keeps0 F bd sc_opened (fun vs H Q E h => ?_) (fun cdv AA outer s H vs Q E hr h => ?_)
  · obtain ⟨A, S, f, y, rfl, _⟩ := h
    rfl
  obtain ⟨A, S, f, y, rfl, L, hp, q⟩ := h
  refine ⟨_, (pss_cons (ps_expr (pe_bm PySem.F.plainAttrs_list PySem.F.slot_list_append PySem.F.type_list_append mt_append (pe_fld (pv 0) rfl) (pa_cons (pv 1) pa_nil)))
    (pss_one (ps_fld (pv 0) (pv 2) rfl))), ?_⟩
  refine ⟨_, rfl, A.m, _, _, _, _, rfl, L.ob, T.c_Machine, T.n_Machine_pile, fl_pile, .inl ⟨rfl, _, SqL.of L.pi⟩, _, rfl, A.pa, _, _, rfl, rfl, L.pi, small9 (by omega), ?_⟩
  have L1 := L.pile (S.pile ++ [f])
  refine ⟨_, rfl, _, rfl, A.m, _, _, _, rfl, L1.ob, T.c_Machine, T.n_Machine_hand, fl_len, ?_⟩
  rw [pf_hand]
  exact q _ (mvp.trans mvm) (L1.fld { S with pile := S.pile ++ [f], hand := y })
theorem Lay.outD (L : Lay K A H S) {b : Addr} {kvs : List (Key × V)} (h : H b = some (.dK kvs)) (n : b ≠ A.ta) : b ∉ A.all := fun z => by
  rcases (by simpa [Ad.all] using z : b = A.m ∨ b = A.pa ∨ b = A.ra ∨ b = A.wa ∨ b = A.la ∨ b = A.ga ∨ b = A.ta) with e | e | e | e | e | e | e
  · rw [e, L.ob] at h; cases h
  · rw [e, L.pi] at h; cases h
  · rw [e, L.re] at h; cases h
  · rw [e, L.wo] at h; cases h
  · rw [e, L.la] at h; cases h
  · rw [e, L.lg] at h; cases h
  · exact n e
def Sty (H H' : Hp) : Prop := TupK H H' ∧ ∀ b C dx fs, H b = some (.ins C dx fs) → H' b = some (.ins C dx fs)
theorem Core.sty (C : Core K A D M H S t pl) (L' : Lay K A H' S) (k : Sty H H') : Core K A D M H' S t pl := by
  refine ⟨L', C.good, ⟨C.fr.1, fun i v p a b => (C.fr.2 i v p a b).mono (fun _ z => z) k.1⟩, C.way, fun q hq => ?_⟩
  obtain ⟨j, a, h1, h2, h3⟩ := C.keys q hq
  refine ⟨j, a, h1, h2, ?_⟩
  cases h3 with
  | wait dx x h ht hn => exact .wait dx x (k.2 _ _ _ _ h) (ht.keep k.1) hn
  | under dx h hp => exact .under dx (k.2 _ _ _ _ h) hp
  | ready dx x h hv => exact .ready dx x (k.2 _ _ _ _ h) (hv.mono (fun _ z => z) k.1)
def Soft (H : Hp) (b : Addr) : Prop := (∃ xs, H b = some (.lst xs)) ∨ ∃ kvs, H b = some (.dK kvs)
theorem sty_off {b : Addr} {o : HO} (h : Soft H b) : Sty H (upd H b o) := by
  have ne : ∀ {c u}, H c = some u → (∀ xs, u ≠ .lst xs) → (∀ kvs, u ≠ .dK kvs) → c ≠ b := by
    rintro c u hc n1 n2 rfl
    rcases h with ⟨xs, h⟩ | ⟨kvs, h⟩
    · rw [h] at hc; exact n1 xs (Option.some.inj hc).symm
    · rw [h] at hc; exact n2 kvs (Option.some.inj hc).symm
  refine ⟨fun c xs hc => ?_, fun c C dx fs hc => ?_⟩
  · rw [upd_ne (ne hc (fun _ z => by cases z) (fun _ z => by cases z))]; exact hc
  · rw [upd_ne (ne hc (fun _ z => by cases z) (fun _ z => by cases z))]; exact hc
theorem Lay.off (L : Lay K A H S) {b : Addr} {o : HO} (hb : b ∉ A.all) (h : Soft H b) : Lay K A (upd H b o) S := by
  have ne : ∀ {c}, c ∈ A.all → c ≠ b := fun hc z => hb (z ▸ hc)
  have k := (sty_off (o := o) h).1
  exact ⟨by rw [upd_ne (ne (by simp [Ad.all]))]; exact L.ob, by rw [upd_ne (ne (by simp [Ad.all]))]; exact L.pi, by rw [upd_ne (ne (by simp [Ad.all]))]; exact L.re, by rw [upd_ne (ne (by simp [Ad.all]))]; exact L.wo, by rw [upd_ne (ne (by simp [Ad.all]))]; exact L.la,
    by rw [upd_ne (ne (by simp [Ad.all]))]; exact L.lg, by rw [upd_ne (ne (by simp [Ad.all]))]; exact L.th, L.ap, L.rows.keep k⟩
theorem Core.off (C : Core K A D M H S t pl) {b : Addr} {o : HO} (hb : b ∉ A.all) (h : Soft H b) : Core K A D M (upd H b o) S t pl := C.sty (C.lay.off hb h) (sty_off h)
theorem mv_grow {G : Hp} (m : Mv A H G) {b : Addr} {o : HO} (h : H b = none) : Mv A H (upd G b o) := fun c u e n => by
  rw [upd_ne (ne_of_none e h)]
  exact m c u e n
theorem Lay.outH (L : Lay K A H S) {G : Hp} {S1 : S83} {b : Addr} (h : H b = none) : b ∉ A.all := L.outN h
/-- numbered i times -/
structure Num1 (i : Nat) (S S1 : S83) : Prop where
  hand : S1.hand = S.hand
  things : S1.things = S.things
  pile : S1.pile = S.pile
  rest : S1.rest = S.rest
  words : S1.words = S.words
  steps : S1.steps = S.steps
  ended : S1.ended = S.ended
  la : S1.labels.length = S.labels.length + i
  lg : S1.log.length = S.log.length + i
  wl : W S1.log = W S.log
theorem Num1.next {i : Nat} {S S1 : S83} (n : Num1 i S S1) (v : V) (l : Str) : Num1 (i + 1) S (S1.numb v l) :=
  ⟨n.hand, n.things, n.pile, n.rest, n.words, n.steps, n.ended, by show (S1.labels ++ [l]).length = _; rw [List.length_append, n.la]; rfl, by show (S1.log ++ [_]).length = _; rw [List.length_append, n.lg]; rfl, by
    show W (S1.log ++ [_]) = _
    rw [W_other (.inl rfl)]
    exact n.wl⟩
def AtV (G : Hp) (v : V) (k : Nat) : Prop := ∃ a, v = .ref a ∧ G a = some (.tup [.str "at", .int ((k : Nat) : Int)])
theorem AtV.keep {G G' : Hp} {v : V} {k : Nat} (h : AtV G v k) (t : TupK G G') : AtV G' v k := by
  obtain ⟨a, e, ha⟩ := h
  exact ⟨a, e, t _ _ ha⟩
theorem AtV.uniq {G : Hp} {v : V} {k j : Nat} (h : AtV G v k) (g : AtV G v j) : k = j := by
  obtain ⟨a, rfl, ha⟩ := h
  obtain ⟨b, e, hb⟩ := g
  cases e
  rw [ha] at hb
  have := Option.some.inj hb
  injection this with this
  simp at this
  omega
structure KV (n0 i : Nat) (xs : List Str) (G : Hp) (S1 : S83) (kvs : List (Key × V)) : Prop where
  len : kvs.length ≤ i
  vals : ∀ q ∈ kvs, ∃ k, AtV G q.2 k ∧ n0 ≤ k ∧ k < S1.labels.length ∧ ∃ j x, j < i ∧ xs[j]? = some x ∧ q.1 = .inr x
  has : ∀ j x, j < i → xs[j]? = some x → ∃ v, valV kvs (.inr x) = some v
  un : ∀ q ∈ kvs, valV kvs q.1 = some q.2
theorem ok_born_all (T : Top K mg) (D : Nat) : Keeps P w K mg base CX0 (2 * D + 3) d_Machine_born_all P_Machine_born_all (spBornAll K D) := by
  obtain ⟨fd, F, bd⟩ := T.f_Machine_born_all
  obtain ⟨_, G_Runner_numbered⟩ := ok_numbered (P := P) (w := w) (base := base) T
  obtain ⟨_, G_Waiting_init⟩ := ok_waiting (P := P) (w := w) (base := base) T
  obtain ⟨_, G_put⟩ := ok_put (P := P) (w := w) (base := base) T D
  refine keeps0 F bd sc_Machine_born_all (fun vs H Q E h => ?_) (fun cdv AA outer s H vs Q E hr h => ?_)
  · obtain ⟨A, M, S, t, pl, p, prs, rfl, _⟩ := h
    rfl
  obtain ⟨A, M, S, t, pl, p, prs, rfl, Pr, hp, hl, hprs, q⟩ := h
  refine ⟨_, (pss_cons (ps_set (i := 2) sc_Machine_born_all.nd rfl (Or.inl rfl) pe_dnewK)
    (pss_cons (ps_for PassesOwn.never rfl (pi_tup (pv 1)) (pg_name (i := 3) sc_Machine_born_all.nd rfl (Or.inl rfl))
    (pss_one (ps_dput (hu_of hr) (pv 2) (pe_ix ix_tup (pv 3) pe_int (fun _ _ => rfl)) (pe_tup (pa_cons pe_str (pa_cons (pe_meth (pv 0) T.c_Machine T.m_numbered G_Runner_numbered.ok (hr.mono (by omega)) G_Runner_numbered.bd .nil pass0 (pa_cons (pe_ix ix_tup (pv 3) pe_int (fun _ _ => rfl)) pa_nil)) pa_nil))) rfl)))
    (pss_cons (ps_for PassesOwn.never rfl (pi_tup (pv 1)) (pg_tup rfl (pgs_cons (pg_name (i := 4) sc_Machine_born_all.nd rfl (Or.inl rfl)) (pgs_cons (pg_name (i := 5) sc_Machine_born_all.nd rfl (Or.inl rfl)) pgs_nil)))
    (pss_one (ps_dput (hu_of hr) (pe_fld (pv 0) rfl) (pe_ix ix_tup (pe_dget (hu_of hr) (pv 2) (pv 4) (fun _ _ => rfl)) pe_int (fun _ _ => rfl)) (pe_make T.k_Waiting G_Waiting_init.ok (hr.mono (by omega)) rfl T.g_Waiting G_Waiting_init.bd .nil pass0 (pa_cons (pe_call G_put.ok (hr.mono (by omega)) rfl T.g_put G_put.kp G_put.bd .nil pass0 (pa_cons (pv 5) (pa_cons (pv 2) pa_nil))) pa_nil)) rfl)))
    (pss_one (ps_ret (pv 2)))))), ?_⟩
  have L := Pr.core.lay
  obtain ⟨xs, hx1, hx2⟩ := prs_names prs hprs
  intro dm hdm
  have hdo : dm ∉ A.all := L.outN hdm
  refine ⟨_, rfl, p, rfl, ⟨prs, SqT.of (same_new hdm _ _ hp)⟩, for_tup (K := K) (a := p) (xs := prs)
    (fun i σ G => ∃ v3 v4 v5, σ = [some (.ref A.m), some (.ref p), some (.ref dm), v3, v4, v5] ∧ ∃ S1 t1 kvs, Core K A D M G S1 t1 pl ∧ t1 ≤ S1.steps ∧ Mv A H G ∧ Num1 i S S1 ∧ G dm = some (.dK kvs) ∧ KV S.labels.length i xs G S1 kvs)
    ⟨_, _, _, rfl, S, t, [], Pr.core.keep (fun _ z => z) (L.same (same_new hdm)) (mvn hdm), Pr.time, mvn hdm, ⟨rfl, rfl, rfl, rfl, rfl, rfl, rfl, rfl, rfl, rfl⟩, upd_same, Nat.le_refl _, (fun q hq => by cases hq), (fun j x hj => by omega), fun q hq => by cases hq⟩ (fun i σ G _ h => ?_) ?_ ?_⟩
  · obtain ⟨_, _, _, _, _, _, _, _, _, m, _⟩ := h
    exact SqT.of ((L.tupK m) _ _ hp)
  · rintro i v σ G hi ⟨v3, v4, v5, rfl, S1, t1, kvs, C1, ht1, m, N1, gd, kv⟩
    obtain ⟨c, x, e, rfl, hc, _, hxi⟩ := hx2 i v hi
    have hlt := (List.getElem?_eq_some_iff.mp hi).1
    have hc1 := (L.tupK m) _ _ hc
    have l1 := N1.la
    have l2 := N1.lg
    have l3 := Pr.la
    have l4 := Pr.lg
    refine ⟨_, rfl, A.m, _, _, rfl, C1.lay.ob, fl_numbered, _, rfl, c, _, _, _, rfl, rfl, SqT.of hc1, rfl, ?_⟩
    refine ⟨A, S1, x, rfl, C1.lay, by omega, by omega, fun v H2 m2 L2 => ?_⟩
    have C2 := C1.numb ht1 m2 L2
    refine ⟨small50 (by simp), fun u hu => ?_⟩
    have e3 := same_new (o := .tup [.str "at", .int ((S1.labels.length : Nat) : Int)]) hu
    have C3 := C2.keep (fun _ z => z) (L2.same e3) (Mv.same e3)
    have gd3 := e3 _ _ (m2 _ _ gd hdo)
    have hc3 := (C1.lay.tupK (m2.trans (Mv.same e3))) _ _ hc1
    refine ⟨_, rfl, _, rfl, c, _, _, _, rfl, rfl, SqT.of hc3, rfl, dm, _, rfl, DPut.k (k := .inr x) gd3 (small9 (by have := kv.len; omega)), ?_⟩
    have st := sty_off (o := .dK (putK kvs (.inr x) (.ref u))) (.inr ⟨_, gd3⟩)
    have k3 := (C1.lay.tupK (m2.trans (Mv.same e3)))
    refine ⟨_, _, _, rfl, _, S1.steps, putK kvs (.inr x) (.ref u), C3.off hdo (.inr ⟨_, gd3⟩), Nat.le_refl _, mv_grow (m.trans (m2.trans (Mv.same e3))) hdm, N1.next v x, upd_same, Nat.le_trans (putK_len _ _ _) (Nat.succ_le_succ kv.len), fun q hq => ?_, fun j y hj hy => ?_, fun q hq => ?_⟩
    · rcases putK_mem' hq with ⟨hq, _⟩ | rfl
      · obtain ⟨k, h1, h2, h3, j, y, h4, h5, h6⟩ := kv.vals q hq
        exact ⟨k, (h1.keep k3).keep st.1, h2, by show k < (S1.labels ++ [x]).length; rw [List.length_append]; omega, j, y, by omega, h5, h6⟩
      · exact ⟨S1.labels.length, ⟨u, rfl, st.1 _ _ upd_same⟩, by omega, by show _ < (S1.labels ++ [x]).length; rw [List.length_append]; simp, i, x, by omega, hxi, rfl⟩
    · rw [valV_put]
      by_cases c : (Sum.inr y : Key) = .inr x
      · exact ⟨_, if_pos c⟩
      · rw [if_neg c]
        by_cases ej : j = i
        · subst ej
          rw [hxi] at hy
          cases hy
          exact absurd rfl c
        · exact kv.has j y (by omega) hy
    · rw [valV_put]
      rcases putK_mem' hq with ⟨hq, hn⟩ | rfl
      · rw [if_neg hn]; exact kv.un q hq
      · exact if_pos rfl
  rintro σ G ⟨v3, v4, v5, rfl, S1, t1, kvs, C1, ht1, m, N1, gd, kv⟩
  have fin : ∀ j : Nat, j < prs.length → ∃ x v k, xs[j]? = some x ∧ valV kvs (.inr x) = some v ∧ AtV G v k ∧ S.labels.length ≤ k ∧ k < S1.labels.length := by
    intro j hj
    have hj2 : j < xs.length := by omega
    obtain ⟨v, hv⟩ := kv.has j xs[j] hj (List.getElem?_eq_getElem hj2)
    obtain ⟨q, hq, e, _⟩ := valV_mem hv
    obtain ⟨k, h1, h2, h3, _⟩ := kv.vals q hq
    exact ⟨xs[j], v, k, List.getElem?_eq_getElem hj2, hv, e ▸ h1, h2, h3⟩
  obtain ⟨M2, hM2⟩ : ∃ M2 : Nat → Prop, M2 = fun k => M k ∨ ∃ q ∈ kvs, AtV G q.2 k := ⟨_, rfl⟩
  have up : ∀ k, M k → M2 k := fun k h => by rw [hM2]; exact .inl h
  have mk : MarksD M2 G dm kvs := ⟨gd, by have := kv.len; omega, fun q hq => by
    obtain ⟨k, h1, _⟩ := kv.vals q hq
    obtain ⟨a, e, ha⟩ := id h1
    exact ⟨a, k, e, by rw [hM2]; exact .inr ⟨q, hq, h1⟩, ha⟩⟩
  have C2 := C1.keep up C1.lay (Mv.refl _)
  have hlt : ∀ r ∈ (W S1.log).1, r.n < S.labels.length := fun r hr => by
    rw [N1.wl] at hr
    exact (List.getElem?_eq_some_iff.mp (Pr.core.good.fact.lab r hr)).1
  have hHG := L.tupK m
  have l1 := N1.la
  have l2 := N1.lg
  have l3 := Pr.la
  have l4 := Pr.lg
  have l5 := Pr.th
  refine ⟨_, rfl, p, rfl, ⟨prs, SqT.of (hHG _ _ hp)⟩, for_tup (K := K) (a := p) (xs := prs)
    (fun i σ G' => ∃ v3 v4 v5, σ = [some (.ref A.m), some (.ref p), some (.ref dm), v3, v4, v5] ∧ ∃ th, Core K A D M2 G' { S1 with things := th } t1 pl ∧ Mv A G G' ∧ th.length ≤ S.things.length + i ∧ (∀ k : Nat, (∃ a, valV S.things (.inl (k : Int)) = some (.ref a)) → ∃ a, valV th (.inl (k : Int)) = some (.ref a)) ∧
      ∀ (j : Nat) (x : Str) (v : V) (k : Nat), j < i → xs[j]? = some x → valV kvs (.inr x) = some v → AtV G v k → ∃ a, valV th (.inl (k : Int)) = some (.ref a))
    ⟨_, _, _, rfl, S1.things, C2, Mv.refl _, by rw [N1.things]; omega, by rw [N1.things]; exact fun k h => h, fun j x v k hj => by omega⟩ (fun i σ G' _ h => ?_) ?_ ?_⟩
  · obtain ⟨_, _, _, _, _, _, m', _⟩ := h
    exact SqT.of ((C1.lay.tupK m') _ _ (hHG _ _ hp))
  · rintro i v σ G' hi ⟨v3, v4, v5, rfl, th, C3, m', ht, k1, k2⟩
    obtain ⟨c, x, e, rfl, hc, he, hxi⟩ := hx2 i v hi
    have hlt' := (List.getElem?_eq_some_iff.mp hi).1
    have kk := C1.lay.tupK m'
    have hc1 := kk _ _ (hHG _ _ hc)
    have he1 : Tm M2 G' D e := (he.mono up (hHG) (Nat.le_refl _)).keep kk
    have gd1 := m' _ _ gd hdo
    have mk1 : MarksD M2 G' dm kvs := ⟨gd1, mk.2.1, fun q hq => (mk.2.2 q hq).mono (fun _ z => z) kk⟩
    refine ⟨c, _, rfl, SqT.of hc1, rfl, _, _, rfl, _, _, rfl, rfl, ?_⟩
    refine ⟨_, rfl, _, rfl, M2, e, dm, kvs, rfl, he1, mk1, fun y H4 s4 t4 => ?_⟩
    refine fun u du hu hdu hne => ⟨u, du, y, rfl, upd_same, rfl, ?_⟩
    have sm := mv_make (A := A) (C := He.ga K "Waiting") (f := "text") (v := y) hu hdu hne
    have s5 := s4.trans sm
    have L5 := C3.lay.same s5
    have C5 := C3.keep (fun _ z => z) L5 (Mv.same s5)
    obtain ⟨x', v, k, hx', hv, hat, hk0, hk1⟩ := fin i hlt'
    rw [hxi] at hx'
    cases hx'
    obtain ⟨a, rfl, ha⟩ := id hat
    have gd5 := s5 _ _ gd1
    refine ⟨_, rfl, A.m, _, _, _, _, rfl, L5.ob, T.c_Machine, T.n_Machine_things, fl_things, _, rfl, _, rfl, dm, .ref a, rfl, hv ▸ DGet.k (k := .inr x) gd5, a, _, _, _, rfl, rfl, SqT.of (s5 _ _ (kk _ _ ha)), rfl, A.ta, _, rfl, DPut.k (k := .inl ((k : Nat) : Int)) L5.th (small9 (by show th.length ≤ 100000; omega)), ?_⟩
    have L6 := L5.thing (putK th (.inl ((k : Nat) : Int)) (.ref u))
    have k6 := L5.tupK (mvt (o := .dK (putK th (.inl ((k : Nat) : Int)) (.ref u))))
    refine ⟨_, _, _, rfl, _, C5.wait mvt L6 hk1 (fun r hr z => by have := hlt r hr; omega) (L5.ins mvt (by simp) upd_same) ((tm_same t4 sm).keep k6), m'.trans ((Mv.same s5).trans mvt), Nat.le_trans (putK_len _ _ _) (by show th.length + 1 ≤ _; omega), fun j h => ?_, fun j z w jk hj hz hw hwk => ?_⟩
    · obtain ⟨b, hb⟩ := k1 j h
      rw [valV_put]
      by_cases c : (Sum.inl ((j : Nat) : Int) : Key) = .inl ((k : Nat) : Int)
      · exact ⟨u, by rw [if_pos c]⟩
      · exact ⟨b, by rw [if_neg c]; exact hb⟩
    · rw [valV_put]
      by_cases c : (Sum.inl ((jk : Nat) : Int) : Key) = .inl ((k : Nat) : Int)
      · exact ⟨u, by rw [if_pos c]⟩
      · rw [if_neg c]
        by_cases ej : j = i
        · subst ej
          rw [hxi] at hz
          cases hz
          rw [hv] at hw
          cases hw
          exact absurd (by rw [hwk.uniq hat]) c
        · exact k2 j z w jk (by omega) hz hw hwk
  rintro σ G' ⟨v3, v4, v5, rfl, th, C3, m', ht, k1, k2⟩
  refine ⟨_, rfl, q M2 G' _ t1 dm kvs ⟨C3, fun k hk => ?_, ht1, up, m.trans m', ⟨N1.rest, N1.words, N1.steps, N1.ended, ?_, ?_, ?_, ?_⟩⟩ N1.hand ⟨m' _ _ gd hdo, mk.2.1, fun q hq => (mk.2.2 q hq).mono (fun _ z => z) (C1.lay.tupK m')⟩⟩
  · rw [hM2] at hk
    rcases hk with hk | ⟨r, hr, hat⟩
    · exact k1 k (Pr.full k hk)
    · obtain ⟨k', h1, _, _, j, x, hj, hx, e⟩ := kv.vals r hr
      exact k2 j x r.2 k hj hx (e ▸ kv.un r hr) hat
  · show S1.labels.length ≤ _
    omega
  · show S1.log.length ≤ _
    omega
  · show th.length ≤ _
    omega
  · show S1.pile.length ≤ _
    rw [N1.pile]
    omega
end
end W83

namespace W83
open PySem PySem.Spec PyProof.Rows L2
abbrev N_let_in : List Str := ["runner", "marks"]
abbrev P_let_in : List Str := ["runner"]
theorem sc_let_in : FnScope N_let_in P_let_in d_let_in.scope := ⟨rfl, rfl, rfl, by decide +kernel, rfl, by decide +kernel, by decide +kernel⟩

abbrev N_shape_made : List Str := ["runner", "shape", "marks", "place", "part"]
abbrev P_shape_made : List Str := ["runner"]
theorem sc_shape_made : FnScope N_shape_made P_shape_made d_shape_made.scope := ⟨rfl, rfl, rfl, by decide +kernel, rfl, by decide +kernel, by decide +kernel⟩

abbrev N_taken : List Str := ["runner", "term", "fun", "mark"]
abbrev P_taken : List Str := ["runner", "term"]
theorem sc_taken : FnScope N_taken P_taken d_taken.scope := ⟨rfl, rfl, rfl, by decide +kernel, rfl, by decide +kernel, by decide +kernel⟩

def HandR (M : Nat → Prop) (D : Nat) (H : Hp) (v : V) : Prop := Tm M H D v ∨ Val M D H v
def Post (K : PySem.W.Frag) (A : Ad) (D n : Nat) (M : Nat → Prop) (H : Hp) (S : S83) (pl : List (Option Nat)) (Q : VK) : Prop :=
  ∀ (M' : Nat → Prop) (H' : Hp) (S' : S83) (t' : Nat), Res K A D n M H S M' H' S' t' pl → HandR M' D H' S'.hand → Q .non H'
def spLetIn (K : PySem.W.Frag) (D : Nat) : Sp := fun vs H Q _ => ∃ (A : Ad) (M : Nat → Prop) (S : S83) (t : Nat) (pl : List (Option Nat)) (a p : Addr) (prs : List V) (b : V), vs = [.ref A.m] ∧ Pre K A D M H S t pl ∧ S.hand = .ref a ∧ H a = some (.tup [.str "let", .ref p, b]) ∧
  H p = some (.tup prs) ∧ prs.length ≤ 6 ∧ (∀ v ∈ prs, Prr H (Tm M H D) v) ∧ Tm M H D b ∧ Post K A D 6 M H S pl Q
def spShapeMade (K : PySem.W.Frag) (D : Nat) : Sp := fun vs H Q _ => ∃ (A : Ad) (M : Nat → Prop) (S : S83) (t : Nat) (pl : List (Option Nat)) (a p : Addr) (ps : List V) (c : Str), vs = [.ref A.m] ∧ Pre K A D M H S t pl ∧ S.hand = .ref a ∧ H a = some (.tup [.str "shape", .str c, .ref p]) ∧
  H p = some (.tup ps) ∧ ps.length ≤ 2 ∧ (∀ v ∈ ps, Tm M H D v) ∧ c.length ≤ 10 ∧ Post K A D 6 M H S pl Q
def spTaken (K : PySem.W.Frag) (D : Nat) : Sp := fun vs H Q _ => ∃ (A : Ad) (M : Nat → Prop) (S : S83) (t : Nat) (pl : List (Option Nat)) (a : Addr) (y : Str) (b x : V), vs = [.ref A.m, x] ∧ Pre K A D M H S t pl ∧ S.hand = .ref a ∧ H a = some (.tup [.str "fun", .str y, b]) ∧
  Tm M H D b ∧ Tm M H D x ∧ Post K A D 6 M H S pl Q
section
variable {P : Program} {w : World} {K : PySem.W.Frag} {mg : Str → Option Value} {base : Heap} {A : Ad} {D : Nat} {M M' : Nat → Prop} {H H' H'' : Hp} {S S' : S83} {t t' : Nat} {pl pl' : List (Option Nat)} {b : Bool} {hv n : Nat}
/-- a new hand -/
theorem Res.hand (r : Res K A D n M H S M' H' S' t' pl') (e : Same H' H'') (v : V) : Res K A D n M H S M' (upd H'' A.m (.ins (He.ga K "Machine") A.dx (flds A { S' with hand := v }))) { S' with hand := v } t' pl' := by
  have L' := (r.core.lay.same e).fld { S' with hand := v }
  have m : Mv A H' (upd H'' A.m (.ins (He.ga K "Machine") A.dx (flds A { S' with hand := v }))) := (Mv.same e).trans mvm
  exact ⟨r.core.keep (fun _ z => z) L' m, r.full, r.time, r.mono, r.mv.trans m, ⟨r.gr.rest, r.gr.words, r.gr.steps, r.gr.ended, r.gr.la, r.gr.lg, r.gr.th, r.gr.pi⟩⟩
theorem PreB.res {B : Nat} (p : PreB B K A D M H S t pl) : Res K A D 0 M H S M H S t pl := ⟨p.core, p.full, p.time, fun _ z => z, Mv.refl _, Grow.refl⟩
theorem ok_let_in (T : Top K mg) (D : Nat) : Keeps P w K mg base CX0 (2 * D + 4) d_let_in P_let_in (spLetIn K D) := by
  obtain ⟨fd, F, bd⟩ := T.f_let_in
  obtain ⟨_, G_Machine_born_all⟩ := ok_born_all (P := P) (w := w) (base := base) T D
  obtain ⟨_, G_put⟩ := ok_put (P := P) (w := w) (base := base) T D
  refine keeps0 F bd sc_let_in (fun vs H Q E h => ?_) (fun cdv AA outer s H vs Q E hr h => ?_)
  · obtain ⟨A, M, S, t, pl, a, p, prs, b, rfl, _⟩ := h
    rfl
  obtain ⟨A, M, S, t, pl, a, p, prs, b, rfl, Pr, hh, ha, hp, hl, hprs, hb, q⟩ := h
  refine ⟨_, (pss_cons (ps_set (i := 1) sc_let_in.nd rfl (Or.inl rfl) (pe_meth (pv 0) T.c_Machine T.m_born_all G_Machine_born_all.ok (hr.mono (by omega)) G_Machine_born_all.bd .nil pass0 (pa_cons (pe_ix ix_tup (pe_fld (pv 0) rfl) pe_int (fun _ _ => rfl)) pa_nil)))
    (pss_one (ps_fld (pv 0) (pe_call G_put.ok (hr.mono (by omega)) rfl T.g_put G_put.kp G_put.bd .nil pass0 (pa_cons (pe_ix ix_tup (pe_fld (pv 0) rfl) pe_int (fun _ _ => rfl)) (pa_cons (pv 1) pa_nil))) rfl))), ?_⟩
  have L := Pr.core.lay
  refine ⟨_, rfl, A.m, _, _, rfl, L.ob, fl_born_all, ⟨_, rfl, A.m, _, _, _, _, rfl, L.ob, T.c_Machine, T.n_Machine_hand, fl_hand, ?_⟩⟩
  rw [hh]
  refine ⟨a, _, _, _, rfl, rfl, SqT.of ha, rfl, ?_⟩
  refine ⟨A, M, S, t, pl, p, prs, rfl, Pr, hp, hl, hprs, fun M1 H1 S1 t1 dm kvs R1 e1 mk => ?_⟩
  have L1 := R1.core.lay
  have k1 := L.tupK R1.mv
  refine ⟨_, rfl, A.m, _, _, _, _, rfl, L1.ob, T.c_Machine, T.n_Machine_hand, fl_hand, ?_⟩
  rw [e1, hh]
  refine ⟨a, _, _, _, rfl, rfl, SqT.of (k1 _ _ ha), rfl, _, rfl, M1, b, dm, kvs, rfl, hb.mono R1.mono k1 (Nat.le_refl _), mk, fun y H2 s2 ty => ?_⟩
  have L2 := L1.same s2
  refine ⟨_, rfl, A.m, _, _, _, rfl, L2.ob, T.c_Machine, T.n_Machine_hand, fl_len, ?_⟩
  rw [pf_hand]
  exact q M1 _ _ t1 (R1.hand s2 y) (.inl (ty.keep (L2.tupK mvm)))
/-- one is born -/
theorem PreB.born {B : Nat} (p : PreB B K A D M H S t pl) {v : V} {l : Str} {x dx u : Addr} {y : V} (m : Mv A H H') (L' : Lay K A H' (S.bornS v l x)) (hx : H' x = some (.ins (He.ga K "Waiting") dx [("text", y)])) (hu : H' u = some (.tup [.str "at", .int ((S.labels.length : Nat) : Int)])) (hy : Tm M H D y) :
    Res K A D 1 M H S (fun k => M k ∨ k = S.labels.length) H' (S.bornS v l x) S.steps pl ∧ Mrk (fun k => M k ∨ k = S.labels.length) H' (.ref u) := by
  have k := p.core.lay.tupK m
  have hlt : ∀ r ∈ (W S.log).1, r.n < S.labels.length := fun r hr => (List.getElem?_eq_some_iff.mp (p.core.good.fact.lab r hr)).1
  have wo : W (S.bornS v l x).log = W S.log := W_other (.inl rfl)
  refine ⟨⟨⟨L', Good.born l p.core.good p.time, ⟨p.core.fr.1, fun i v p' a b => (p.core.fr.2 i v p' a b).mono (fun _ z => .inl z) k⟩, ?_, fun q hq => ?_⟩, fun j hj => ?_, Nat.le_refl _, fun _ z => .inl z, m, ⟨rfl, rfl, rfl, rfl, ?_, ?_, ?_, Nat.le_add_right _ _⟩⟩, ⟨u, _, rfl, .inr rfl, hu⟩⟩
  · rw [wo]; exact p.core.way
  · rcases putK_mem' hq with ⟨hq, hne⟩ | rfl
    · obtain ⟨j, a, rfl, h5, h6⟩ := p.core.keys q hq
      refine ⟨j, a, rfl, by show j < (S.labels ++ [l]).length; rw [List.length_append]; omega, ?_⟩
      cases h6.mono (M' := fun k => M k ∨ k = S.labels.length) (fun _ z => .inl z) p.core.lay m with
      | wait dx x h ht hn => exact .wait dx x h ht (by rw [wo]; exact hn)
      | under dx h hp => exact .under dx h hp
      | ready dx x h hv => exact .ready dx x h hv
    · exact ⟨S.labels.length, x, rfl, by show _ < (S.labels ++ [l]).length; rw [List.length_append]; simp, .wait dx y hx (hy.mono (fun _ z => .inl z) k (Nat.le_refl _)) (by rw [wo]; exact fun r hr z => by have := hlt r hr; omega)⟩
  · show ∃ a, valV (putK S.things _ _) _ = _
    rw [valV_put]
    by_cases c : (Sum.inl ((j : Nat) : Int) : Key) = .inl ((S.labels.length : Nat) : Int)
    · exact ⟨x, by rw [if_pos c]⟩
    · rcases hj with hj | rfl
      · obtain ⟨a, ha⟩ := p.full j hj
        exact ⟨a, by rw [if_neg c]; exact ha⟩
      · exact absurd rfl c
  · show (S.labels ++ [l]).length ≤ _
    rw [List.length_append]; simp
  · show (S.log ++ [_]).length ≤ _
    rw [List.length_append]; simp
  · exact putK_len _ _ _
theorem Res.pre (r : Res K A D n M H S M' H' S' t' pl') (p : Pre K A D M H S t pl) (l : n ≤ 1000) : PreB 40000 K A D M' H' S' t' pl' :=
  ⟨r.core, r.full, r.time, by have := r.gr.la; have := p.la; omega, by have := r.gr.lg; have := p.lg; omega, by have := r.gr.th; have := p.th; omega, by have := r.gr.pi; have := p.pi; omega⟩
/-- a term is a mark, or it is none of the marks -/
theorem tm_mark {x : V} (h : Tm M H D x) : ∃ a z zs, x = .ref a ∧ H a = some (.tup (.str z :: zs)) ∧ ((Mrk M H x ∧ inV (.str z) [.str "at", .str "shut", .str "ring"] = true) ∨ inV (.str z) [.str "at", .str "shut", .str "ring"] = false) := by
  cases D with
  | zero => exact h.elim
  | succ D =>
    obtain ⟨a, xs, e, ha, hs⟩ := h
    cases hs with
    | at_ k hk => exact ⟨a, _, _, e, ha, .inl ⟨⟨a, k, e, hk, ha⟩, by decide +kernel⟩⟩
    | name x => exact ⟨a, _, _, e, ha, .inr (by decide +kernel)⟩
    | number i h0 h1 => exact ⟨a, _, _, e, ha, .inr (by decide +kernel)⟩
    | does op p q hp hq => exact ⟨a, _, _, e, ha, .inr (by decide +kernel)⟩
    | fun_ x b hb => exact ⟨a, _, _, e, ha, .inr (by decide +kernel)⟩
    | call f b hf hb => exact ⟨a, _, _, e, ha, .inr (by decide +kernel)⟩
    | let_ p prs b hp hl he hb => exact ⟨a, _, _, e, ha, .inr (by decide +kernel)⟩
    | shape c p ps hp hl he hc => exact ⟨a, _, _, e, ha, .inr (by decide +kernel)⟩
    | choose f p as he hp hl hal => exact ⟨a, _, _, e, ha, .inr (by decide +kernel)⟩
    | first p q hp hq => exact ⟨a, _, _, e, ha, .inr (by decide +kernel)⟩
    | stop x => exact ⟨a, _, _, e, ha, .inr (by decide +kernel)⟩
theorem ok_taken (T : Top K mg) (D : Nat) : Keeps P w K mg base CX0 (2 * D + 4) d_taken P_taken (spTaken K D) := by
  obtain ⟨fd, F, bd⟩ := T.f_taken
  obtain ⟨_, G_Machine_born⟩ := ok_born (P := P) (w := w) (base := base) T
  obtain ⟨_, G_put⟩ := ok_put (P := P) (w := w) (base := base) T D
  refine keeps0 F bd sc_taken (fun vs H Q E h => ?_) (fun cdv AA outer s H vs Q E hr h => ?_)
  · obtain ⟨A, M, S, t, pl, a, y, b, x, rfl, _⟩ := h
    rfl
  obtain ⟨A, M, S, t, pl, a, y, b, x, rfl, Pr, hh, ha, hb, hx, q⟩ := h
  refine ⟨_, (pss_cons (ps_set (i := 2) sc_taken.nd rfl (Or.inl rfl) (pe_fld (pv 0) rfl))
    (pss_cons (ps_if (pt_cmpR op_in_seq (pe_ix ix_tup (pv 1) pe_int (fun _ _ => rfl)) (pe_glob (v := V.ref (He.ga K "MARKS")) rfl T.g_MARKS rfl) rfl)
    (pss_one (ps_set (i := 3) sc_taken.nd rfl (Or.inl rfl) (pv 1)))
    (pss_one (ps_set (i := 3) sc_taken.nd rfl (Or.inl rfl) (pe_meth (pv 0) T.c_Machine T.m_born G_Machine_born.ok (hr.mono (by omega)) G_Machine_born.bd .nil pass0 (pa_cons (pe_ix ix_tup (pv 2) pe_int (fun _ _ => rfl)) (pa_cons (pv 1) pa_nil))))))
    (pss_one (ps_fld (pv 0) (pe_call G_put.ok (hr.mono (by omega)) rfl T.g_put G_put.kp G_put.bd .nil pass0 (pa_cons (pe_ix ix_tup (pv 2) pe_int (fun _ _ => rfl)) (pa_cons (pe_disp (pps_cons (pe_ix ix_tup (pv 2) pe_int (fun _ _ => rfl)) (pv 3) pps_nil) (by rfl) (by rfl) (fun z => by cases z) (by decide)) pa_nil))) rfl)))), ?_⟩
  have L := Pr.core.lay
  refine ⟨_, rfl, A.m, _, _, _, _, rfl, L.ob, T.c_Machine, T.n_Machine_hand, fl_hand, ?_⟩
  rw [hh]
  obtain ⟨c, z, zs, rfl, hc, hz⟩ := tm_mark hx
  refine ⟨_, rfl, c, _, _, .str z, rfl, rfl, SqT.of hc, at_get (i := 0) rfl, _, _, rfl, .inr (T.x.mrks _), rfl, rfl, ?_⟩
  rcases hz with ⟨mk, hz⟩ | hz
  · refine ⟨_, rfl, ifT (by rw [if_neg Bool.false_ne_true]; exact hz) ?_⟩
    have R1 := Pr.res
    refine ⟨_, rfl, ?_⟩
    have L1 := R1.core.lay
    have k1 := L.tupK R1.mv
    refine ⟨_, rfl, a, _, _, _, rfl, rfl, SqT.of (k1 _ _ ha), rfl, fun dd hdd => ?_⟩
    have s2 := same_new (o := .dK []) hdd
    refine ⟨_, rfl, a, _, _, _, rfl, rfl, SqT.of (s2 _ _ (k1 _ _ ha)), rfl, _, rfl, upd_same, [(.inr y, (.ref c))], rfl, by simp, ?_⟩
    have s3 : Same _ (upd (upd _ dd (.dK [])) dd (.dK (mergeK [] [(.inr y, (.ref c))]))) := fun b o e => by
      rw [upd_ne (ne_of_none e hdd)]
      exact s2 _ _ e
    refine ⟨_, b, dd, mergeK [] [(.inr y, (.ref c))], rfl, tm_same (hb.mono R1.mono k1 (Nat.le_refl _)) s3, ⟨upd_same, by show 1 ≤ 100; decide, fun q hq => ?_⟩, fun v' H4 s4 t4 => ?_⟩
    · rw [List.mem_singleton.mp (show q ∈ [((.inr y : Key), (.ref c))] from hq)]
      exact mk.mono (fun _ z => z) (sameTupK s3)
    · have s34 := s3.trans s4
      have L4 := L1.same s34
      refine ⟨_, rfl, A.m, _, _, _, rfl, L4.ob, T.c_Machine, T.n_Machine_hand, fl_len, ?_⟩
      rw [pf_hand]
      exact q _ _ _ _ ((R1.hand s34 v').more (by decide)) (.inl (t4.keep (L4.tupK mvm)))
  · refine ⟨_, rfl, ifF (by rw [if_neg Bool.false_ne_true]; exact hz) ?_⟩
    refine ⟨_, rfl, A.m, _, _, rfl, L.ob, fl_born, ⟨_, rfl, a, _, _, _, rfl, rfl, SqT.of ha, rfl, _, rfl, ?_⟩⟩
    refine ⟨A, S, y, .ref c, rfl, L, by have := Pr.lg; omega, by have := Pr.la; omega, by have := Pr.th; omega, fun v x dx u H1 m1 L' hx' hu => ?_⟩
    obtain ⟨R1, mk⟩ := Pr.born m1 L' hx' hu hx
    have L1 := R1.core.lay
    have k1 := L.tupK R1.mv
    refine ⟨_, rfl, a, _, _, _, rfl, rfl, SqT.of (k1 _ _ ha), rfl, fun dd hdd => ?_⟩
    have s2 := same_new (o := .dK []) hdd
    refine ⟨_, rfl, a, _, _, _, rfl, rfl, SqT.of (s2 _ _ (k1 _ _ ha)), rfl, _, rfl, upd_same, [(.inr y, (.ref u))], rfl, by simp, ?_⟩
    have s3 : Same _ (upd (upd _ dd (.dK [])) dd (.dK (mergeK [] [(.inr y, (.ref u))]))) := fun b o e => by
      rw [upd_ne (ne_of_none e hdd)]
      exact s2 _ _ e
    refine ⟨_, b, dd, mergeK [] [(.inr y, (.ref u))], rfl, tm_same (hb.mono R1.mono k1 (Nat.le_refl _)) s3, ⟨upd_same, by show 1 ≤ 100; decide, fun q hq => ?_⟩, fun v' H4 s4 t4 => ?_⟩
    · rw [List.mem_singleton.mp (show q ∈ [((.inr y : Key), (.ref u))] from hq)]
      exact mk.mono (fun _ z => z) (sameTupK s3)
    · have s34 := s3.trans s4
      have L4 := L1.same s34
      refine ⟨_, rfl, A.m, _, _, _, rfl, L4.ob, T.c_Machine, T.n_Machine_hand, fl_len, ?_⟩
      rw [pf_hand]
      exact q _ _ _ _ ((R1.hand s34 v').more (by decide)) (.inl (t4.keep (L4.tupK mvm)))
end
end W83

namespace W83
open PySem PySem.Spec PyProof.Rows L2
section
variable {P : Program} {w : World} {K : PySem.W.Frag} {mg : Str → Option Value} {base : Heap} {A : Ad} {D : Nat} {M M' : Nat → Prop} {H H' H'' : Hp} {S S' : S83} {t t' : Nat} {pl pl' : List (Option Nat)} {b : Bool} {hv n : Nat}
theorem Res.same (r : Res K A D n M H S M' H' S' t' pl') (e : Same H' H'') : Res K A D n M H S M' H'' S' t' pl' :=
  ⟨r.core.keep (fun _ z => z) (r.core.lay.same e) (Mv.same e), r.full, r.time, r.mono, r.mv.trans (Mv.same e), r.gr⟩
theorem Res.off (r : Res K A D n M H S M' H' S' t' pl') (L : Lay K A H S) {x : Addr} {o : HO} (hx : H x = none) (h : Soft H' x) : Res K A D n M H S M' (upd H' x o) S' t' pl' :=
  ⟨r.core.off (L.outN hx) h, r.full, r.time, r.mono, mv_grow r.mv hx, r.gr⟩
theorem ok_shape_made (T : Top K mg) (D : Nat) : Keeps P w K mg base CX0 (2 * D + 4) d_shape_made P_shape_made (spShapeMade K D) := by
  obtain ⟨fd, F, bd⟩ := T.f_shape_made
  obtain ⟨_, G_Machine_born⟩ := ok_born (P := P) (w := w) (base := base) T
  refine keeps0 F bd sc_shape_made (fun vs H Q E h => ?_) (fun cdv AA outer s H vs Q E hr h => ?_)
  · obtain ⟨A, M, S, t, pl, a, p, ps, c, rfl, _⟩ := h
    rfl
  obtain ⟨A, M, S, t, pl, a, p, ps, c, rfl, Pr, hh, ha, hp, hl, hps, hcl, q⟩ := h
  refine ⟨_, (pss_cons (ps_set (i := 1) sc_shape_made.nd rfl (Or.inl rfl) (pe_ix ix_tup (pe_fld (pv 0) rfl) pe_int (fun _ _ => rfl)))
    (pss_cons (ps_set (i := 2) sc_shape_made.nd rfl (Or.inl rfl) (pe_lst pa_nil))
    (pss_cons (ps_for PassesOwn.never rfl (pi_enumT (by rfl) T.z_enumerate (pa_cons (pe_ix ix_tup (pe_fld (pv 0) rfl) pe_int (fun _ _ => rfl)) pa_nil) (by decide) (by decide)) (pg_tup rfl (pgs_cons (pg_name (i := 3) sc_shape_made.nd rfl (Or.inl rfl)) (pgs_cons (pg_name (i := 4) sc_shape_made.nd rfl (Or.inl rfl)) pgs_nil)))
    (pss_one (ps_if (pt_cmpR op_in_seq (pe_ix ix_tup (pv 4) pe_int (fun _ _ => rfl)) (pe_glob (v := V.ref (He.ga K "MARKS")) rfl T.g_MARKS rfl) rfl)
    (pss_one (ps_expr (pe_bm PySem.F.plainAttrs_list PySem.F.slot_list_append PySem.F.type_list_append mt_append (pv 2) (pa_cons (pv 4) pa_nil))))
    (pss_one (ps_expr (pe_bm PySem.F.plainAttrs_list PySem.F.slot_list_append PySem.F.type_list_append mt_append (pv 2) (pa_cons (pe_meth (pv 0) T.c_Machine T.m_born G_Machine_born.ok (hr.mono (by omega)) G_Machine_born.bd .nil pass0 (pa_cons (pe_op op_add_str (pe_op op_add_str (pv 1) pe_str) (pe_callTy call_str_int (by rfl) T.z_str (by decide +kernel) (pa_cons (pv 3) pa_nil))) (pa_cons (pv 4) pa_nil))) pa_nil)))))))
    (pss_cons (ps_if (pt_cmpR op_eq (pv 1) pe_str (nomark _))
    (pss_one (ps_fld (pv 0) (pe_op op_add (pe_fld (pv 0) rfl) pe_int) rfl))
    pss_nil)
    (pss_one (ps_fld (pv 0) (pe_tup (pa_cons pe_str (pa_cons (pv 1) (pa_cons (pe_callTy call_tuple_of (by rfl) T.z_tuple (by decide +kernel) (pa_cons (pv 2) pa_nil)) pa_nil)))) rfl)))))), ?_⟩
  have L := Pr.core.lay
  have l1 := Pr.la
  have l2 := Pr.lg
  have l3 := Pr.th
  have l4 := Pr.pi
  refine ⟨_, rfl, A.m, _, _, _, _, rfl, L.ob, T.c_Machine, T.n_Machine_hand, fl_hand, ?_⟩
  rw [hh]
  refine ⟨a, _, _, _, rfl, rfl, SqT.of ha, rfl, small50 (by simp), fun mk hmk => ?_⟩
  have e1 := same_new (o := .lst []) hmk
  have L1 := L.same e1
  refine ⟨_, rfl, A.m, _, _, _, _, rfl, L1.ob, T.c_Machine, T.n_Machine_hand, fl_hand, ?_⟩
  rw [hh]
  refine ⟨a, _, _, _, rfl, rfl, SqT.of (e1 _ _ ha), rfl, p, ps, rfl, SqT.of (e1 _ _ hp), for_enumT (K := K) (a := p) (k0 := 1) (xs := ps)
    (fun i σ G => ∃ v3 v4, σ = [some (.ref A.m), some (.str c), some (.ref mk), v3, v4] ∧ i ≤ ps.length ∧ ∃ M1 S1 t1 acc, Res K A D i M H S M1 G S1 t1 pl ∧ S1.hand = S.hand ∧ G mk = some (.lst acc) ∧ acc.length = i ∧ ∀ m ∈ acc, Mrk M1 G m)
    ⟨_, _, rfl, Nat.zero_le _, M, S, t, [], Pr.res.same e1, rfl, upd_same, rfl, fun m hm => by cases hm⟩ (fun i σ G h => ?_) ?_ ?_⟩
  · obtain ⟨_, _, _, _, _, _, _, _, R, _⟩ := h
    exact SqT.of ((L.tupK R.mv) _ _ hp)
  · rintro i v Tp σ G hi ⟨v3, v4, rfl, hile, M1, S1, t1, acc, R1, eh, gmk, la, hacc⟩ hTp
    have hlt := (List.getElem?_eq_some_iff.mp hi).1
    have e2 := same_new (o := .tup [.int (1 + (i : Int)), v]) hTp
    have R2 := R1.same e2
    have hv := (hps v (List.mem_of_getElem? hi)).mono R2.mono (L.tupK R2.mv) (Nat.le_refl _)
    have gmk2 := e2 _ _ gmk
    refine ⟨Tp, _, rfl, SqT.of upd_same, rfl, _, _, rfl, _, _, rfl, rfl, ?_⟩
    obtain ⟨x, z, zs, rfl, hc, hz⟩ := tm_mark hv
    refine ⟨_, rfl, x, _, _, .str z, rfl, rfl, SqT.of hc, at_get (i := 0) rfl, _, _, rfl, .inr (T.x.mrks _), rfl, rfl, ?_⟩
    rcases hz with ⟨mm, hz⟩ | hz
    · refine ⟨_, rfl, ifT (by rw [if_neg Bool.false_ne_true]; exact hz) ?_⟩
      refine ⟨_, rfl, .inl ⟨rfl, _, SqL.of gmk2⟩, _, rfl, mk, _, _, rfl, rfl, gmk2, small9 (by omega), ?_⟩
      have st := (sty_off (o := .lst (acc ++ [.ref x])) (.inl ⟨_, gmk2⟩)).1
      refine ⟨_, _, rfl, by omega, M1, S1, t1, acc ++ [.ref x], (R2.off L hmk (.inl ⟨_, gmk2⟩)).more (by omega), eh, upd_same, by rw [List.length_append, la]; rfl, fun m hm => ?_⟩
      rcases List.mem_append.mp hm with h | h
      · exact ((hacc m h).mono (fun _ z => z) (sameTupK e2)).mono (fun _ z => z) st
      · rw [List.mem_singleton.mp h]
        exact mm.mono (fun _ z => z) st
    · refine ⟨_, rfl, ifF (by rw [if_neg Bool.false_ne_true]; exact hz) ?_⟩
      have P2 := R2.pre Pr (by omega)
      have L2 := P2.core.lay
      have hdot : (c ++ ("." : Str)).length ≤ 11 := by
        rw [strLen_append]
        have : ("." : Str).length = 1 := by decide +kernel
        omega
      have sh := PyProof.Rows.shown (a := 1 + (i : Int)) (N := 1000) (by omega) (by omega) (by decide)
      have stl : (Str.ofString (toString (1 + (i : Int)))).length ≤ 3 := PyProof.Rows.toString_length_le (by omega) (by decide) (by omega)
      refine ⟨_, rfl, .inl ⟨rfl, _, SqL.of gmk2⟩, _, rfl, A.m, _, _, rfl, L2.ob, fl_born, ⟨_, rfl, _, _, rfl, rfl, by rw [← strLen_append]; exact small50 (by omega), _, rfl, _, rfl, sh, _, _, rfl, rfl, small50 (by omega), _, rfl, ?_⟩⟩
      refine ⟨A, S1, _, .ref x, rfl, L2, by have := P2.lg; omega, by have := P2.la; omega, by have := P2.th; omega, fun v xx dx u H1 m1 L' hx' hu => ?_⟩
      obtain ⟨R3, mm⟩ := P2.born m1 L' hx' hu hv
      have R4 := R2.trans R3
      have gmk3 := m1 _ _ gmk2 (L.outN hmk)
      have k3 := L2.tupK m1
      refine ⟨mk, _, _, rfl, rfl, gmk3, small9 (by omega), ?_⟩
      have st := (sty_off (o := .lst (acc ++ [.ref u])) (.inl ⟨_, gmk3⟩)).1
      refine ⟨_, _, rfl, by omega, _, _, _, acc ++ [.ref u], R4.off L hmk (.inl ⟨_, gmk3⟩), eh, upd_same, by rw [List.length_append, la]; rfl, fun m hm => ?_⟩
      rcases List.mem_append.mp hm with h | h
      · exact (((hacc m h).mono (fun _ z => z) (sameTupK e2)).mono (fun _ z => .inl z) k3).mono (fun _ z => z) st
      · rw [List.mem_singleton.mp h]
        exact mm.mono (fun _ z => z) st
  rintro σ G ⟨v3, v4, rfl, hile, M1, S1, t1, acc, R1, eh, gmk, la, hacc⟩
  have Lg := R1.core.lay
  refine ⟨_, rfl, rfl, _, rfl, ifB (fun _ => ?_) (fun _ => ?_)⟩
  · refine ⟨_, rfl, A.m, _, _, _, _, rfl, Lg.ob, T.c_Machine, T.n_Machine_cells, fl_cells, _, _, rfl, rfl, _, rfl, A.m, _, _, _, rfl, Lg.ob, T.c_Machine, T.n_Machine_cells, fl_len, ?_⟩
    rw [pf_cells]
    have m5 := mvm (A := A) (H := G) (o := .ins (He.ga K "Machine") A.dx (flds A { S1 with cells := S1.cells + 1 }))
    have L5 := Lg.fld { S1 with cells := S1.cells + 1 }
    have R5 : Res K A D ps.length M H S M1 _ { S1 with cells := S1.cells + 1 } t1 pl := ⟨R1.core.keep (fun _ z => z) L5 m5, R1.full, R1.time, R1.mono, R1.mv.trans m5, ⟨R1.gr.rest, R1.gr.words, R1.gr.steps, R1.gr.ended, R1.gr.la, R1.gr.lg, R1.gr.th, R1.gr.pi⟩⟩
    have gmk1 := m5 _ _ gmk (L.outN hmk)
    have hacc1 := fun m hm => (hacc m hm).mono (fun _ z => z) (Lg.tupK m5)
    obtain ⟨S5, hS5⟩ : ∃ S5, S5 = { S1 with cells := S1.cells + 1 } := ⟨_, rfl⟩
    rw [← hS5] at R5
    rw [← hS5]
    rw [← hS5] at gmk1 hacc1
    refine ⟨_, rfl, _, rfl, mk, acc, rfl, .inl ⟨SqL.of gmk1, fun u hu => ?_⟩⟩
    have e4 := same_new (o := .tup acc) hu
    refine ⟨small50 (by simp), fun r hr' => ?_⟩
    have e5 := same_new (o := .tup [.str "made", .str c, .ref u]) hr'
    have L5 := R5.core.lay.same (e4.trans e5)
    refine ⟨_, rfl, A.m, _, _, _, rfl, L5.ob, T.c_Machine, T.n_Machine_hand, fl_len, ?_⟩
    rw [pf_hand]
    have k6 := L5.tupK (mvm (o := .ins (He.ga K "Machine") A.dx (flds A { S5 with hand := .ref r })))
    exact q _ _ _ _ ((R5.hand (e4.trans e5) (.ref r)).more (by omega)) (.inr ⟨r, _, rfl, k6 _ _ upd_same, .made c u acc (k6 _ _ (e5 _ _ upd_same)) (by omega) (fun m hm => ((hacc1 m hm).mono (fun _ z => z) (sameTupK (e4.trans e5))).mono (fun _ z => z) k6) hcl⟩)
  · have R5 := R1
    obtain ⟨S5, hS5⟩ : ∃ S5, S5 = S1 := ⟨_, rfl⟩
    rw [← hS5] at R5
    have gmk1 := gmk
    have hacc1 := hacc
    refine ⟨_, rfl, _, rfl, mk, acc, rfl, .inl ⟨SqL.of gmk1, fun u hu => ?_⟩⟩
    have e4 := same_new (o := .tup acc) hu
    refine ⟨small50 (by simp), fun r hr' => ?_⟩
    have e5 := same_new (o := .tup [.str "made", .str c, .ref u]) hr'
    have L5 := R5.core.lay.same (e4.trans e5)
    refine ⟨_, rfl, A.m, _, _, _, rfl, L5.ob, T.c_Machine, T.n_Machine_hand, fl_len, ?_⟩
    rw [pf_hand]
    have k6 := L5.tupK (mvm (o := .ins (He.ga K "Machine") A.dx (flds A { S5 with hand := .ref r })))
    exact q _ _ _ _ ((R5.hand (e4.trans e5) (.ref r)).more (by omega)) (.inr ⟨r, _, rfl, k6 _ _ upd_same, .made c u acc (k6 _ _ (e5 _ _ upd_same)) (by omega) (fun m hm => ((hacc1 m hm).mono (fun _ z => z) (sameTupK (e4.trans e5))).mono (fun _ z => z) k6) hcl⟩)
end
end W83

namespace W83
open PySem PySem.Spec PyProof.Rows L2
abbrev N_framed : List Str := ["runner", "frame", "value"]
abbrev P_framed : List Str := ["runner", "frame"]
theorem sc_framed : FnScope N_framed P_framed d_framed.scope := ⟨rfl, rfl, rfl, by decide +kernel, rfl, by decide +kernel, by decide +kernel⟩

def PostX (K : PySem.W.Frag) (A : Ad) (D n : Nat) (M : Nat → Prop) (H : Hp) (S : S83) (Q : VK) : Prop :=
  ∀ (M' : Nat → Prop) (H' : Hp) (S' : S83) (t' : Nat) (pl' : List (Option Nat)), Res K A D n M H S M' H' S' t' pl' → HandR M' D H' S'.hand → Q .non H'
def spFramed (K : PySem.W.Frag) (D : Nat) : Sp := fun vs H Q _ => ∃ (A : Ad) (M : Nat → Prop) (S : S83) (t : Nat) (pl : List (Option Nat)) (a f : Addr) (xs fs : List V), vs = [.ref A.m, .ref f] ∧ Pre K A D M H S t pl ∧ S.hand = .ref a ∧ H a = some (.tup xs) ∧
  H f = some (.tup fs) ∧ Fit M D H fs xs ∧ PostX K A D 6 M H S Q
section
variable {P : Program} {w : World} {K : PySem.W.Frag} {mg : Str → Option Value} {base : Heap}
theorem ok_framed (T : Top K mg) (D : Nat) : Keeps P w K mg base CX0 (2 * D + 5) d_framed P_framed (spFramed K D) := by
  obtain ⟨fd, F, bd⟩ := T.f_framed
  obtain ⟨_, G_taken⟩ := ok_taken (P := P) (w := w) (base := base) T D
  obtain ⟨_, G_picked⟩ := ok_picked (P := P) (w := w) (base := base) T D
  obtain ⟨_, G_reckoned⟩ := ok_reckoned (P := P) (w := w) (base := base) T
  refine keeps0 F bd sc_framed (fun vs H Q E h => ?_) (fun cdv AA outer s H vs Q E hr h => ?_)
  · obtain ⟨A, M, S, t, pl, a, f, xs, fs, rfl, _⟩ := h
    rfl
  obtain ⟨A, M, S, t, pl, a, f, xs, fs, rfl, Pr, hh, ha, hf, ft, q⟩ := h
  refine ⟨_, (pss_cons (ps_set (i := 2) sc_framed.nd rfl (Or.inl rfl) (pe_fld (pv 0) rfl))
    (pss_one (ps_if (pt_cmpR op_eq (pe_ix ix_tup (pv 1) pe_int (fun _ _ => rfl)) pe_str (nomark _))
    (pss_one (ps_expr (pe_call G_taken.ok (hr.mono (by omega)) rfl T.g_taken G_taken.kp G_taken.bd .nil pass0 (pa_cons (pv 0) (pa_cons (pe_ix ix_tup (pv 1) pe_int (fun _ _ => rfl)) pa_nil)))))
    (pss_one (ps_if (pt_cmpR op_eq (pe_ix ix_tup (pv 1) pe_int (fun _ _ => rfl)) pe_str (nomark _))
    (pss_one (ps_fld (pv 0) (pe_call G_picked.ok (hr.mono (by omega)) rfl T.g_picked G_picked.kp G_picked.bd .nil pass0 (pa_cons (pv 2) (pa_cons (pe_ix ix_tup (pv 1) pe_int (fun _ _ => rfl)) pa_nil))) rfl))
    (pss_one (ps_if (pt_cmpR op_eq (pe_ix ix_tup (pv 1) pe_int (fun _ _ => rfl)) pe_str (nomark _))
    (pss_cons (ps_expr (pe_bm PySem.F.plainAttrs_list PySem.F.slot_list_append PySem.F.type_list_append mt_append (pe_fld (pv 0) rfl) (pa_cons (pe_tup (pa_cons pe_str (pa_cons (pe_ix ix_tup (pv 1) pe_int (fun _ _ => rfl)) (pa_cons (pe_ix ix_tup (pv 2) pe_int (fun _ _ => rfl)) pa_nil)))) pa_nil)))
    (pss_one (ps_fld (pv 0) (pe_ix ix_tup (pv 1) pe_int (fun _ _ => rfl)) rfl)))
    (pss_one (ps_if (pt_cmpR op_eq (pe_ix ix_tup (pv 1) pe_int (fun _ _ => rfl)) pe_str (nomark _))
    (pss_one (ps_fld (pv 0) (pe_call G_reckoned.ok (hr.mono (by omega)) rfl T.g_reckoned G_reckoned.kp G_reckoned.bd .nil pass0 (pa_cons (pe_ix ix_tup (pv 1) pe_int (fun _ _ => rfl)) (pa_cons (pe_ix ix_tup (pv 1) pe_int (fun _ _ => rfl)) (pa_cons (pe_ix ix_tup (pv 2) pe_int (fun _ _ => rfl)) pa_nil)))) rfl))
    (pss_one (ps_fld (pv 0) (pe_ix ix_tup (pv 1) pe_int (fun _ _ => rfl)) rfl))))))))))), ?_⟩
  have L := Pr.core.lay
  refine ⟨_, rfl, A.m, _, _, _, _, rfl, L.ob, T.c_Machine, T.n_Machine_hand, fl_hand, ?_⟩
  rw [hh]
  cases ft with
  | give x y b hx hb =>
    refine ⟨_, rfl, f, _, _, _, rfl, rfl, SqT.of hf, rfl, rfl, _, rfl, ifT (by decide +kernel) ?_⟩
    refine ⟨_, rfl, _, rfl, f, _, _, _, rfl, rfl, SqT.of hf, rfl, ?_⟩
    exact ⟨A, M, S, t, pl, a, y, b, x, rfl, Pr, hh, ha, hb, hx, fun M' H' S' t' R hnd => q M' H' S' t' pl R hnd⟩
  | choose pa as c p ms hal hp hl hm he =>
    refine ⟨_, rfl, f, _, _, _, rfl, rfl, SqT.of hf, rfl, rfl, _, rfl, ifF (by decide +kernel) ?_⟩
    refine ⟨_, rfl, f, _, _, _, rfl, rfl, SqT.of hf, rfl, rfl, _, rfl, ifT (by decide +kernel) ?_⟩
    refine ⟨_, rfl, _, rfl, f, _, _, _, rfl, rfl, SqT.of hf, rfl, ?_⟩
    refine ⟨M, a, p, pa, c, ms, as, rfl, ha, hp, hl, hm, hal.1, hal.2.2, he, fun v' H2 s2 t2 => ?_⟩
    have L2 := L.same s2
    refine ⟨_, rfl, A.m, _, _, _, rfl, L2.ob, T.c_Machine, T.n_Machine_hand, fl_len, ?_⟩
    rw [pf_hand]
    exact q _ _ _ _ _ ((Pr.res.hand s2 v').more (by decide)) (.inl (t2.keep (L2.tupK mvm)))
  | left op x i h h0 h1 =>
    refine ⟨_, rfl, f, _, _, _, rfl, rfl, SqT.of hf, rfl, rfl, _, rfl, ifF (by decide +kernel) ?_⟩
    refine ⟨_, rfl, f, _, _, _, rfl, rfl, SqT.of hf, rfl, rfl, _, rfl, ifF (by decide +kernel) ?_⟩
    refine ⟨_, rfl, f, _, _, _, rfl, rfl, SqT.of hf, rfl, rfl, _, rfl, ifT (by decide +kernel) ?_⟩
    refine ⟨_, rfl, A.m, _, _, _, _, rfl, L.ob, T.c_Machine, T.n_Machine_pile, fl_pile, .inl ⟨rfl, _, SqL.of L.pi⟩, _, rfl, f, _, _, _, rfl, rfl, SqT.of hf, rfl, _, rfl, a, _, _, _, rfl, rfl, SqT.of ha, rfl, small50 (by simp), fun r hr' => ?_⟩
    have e1 := same_new (o := .tup [.str "right", .str op, .int i]) hr'
    have L1 := L.same e1
    refine ⟨A.pa, _, _, rfl, rfl, L1.pi, small9 (by have := Pr.pi; omega), ?_⟩
    have L2 := L1.pile (S.pile ++ [.ref r])
    have m2 := (Mv.same (A := A) e1).trans (mvp (o := .lst (S.pile ++ [.ref r])))
    have k2 := L.tupK m2
    have C2 := Pr.core.push (v := .ref r) L2 m2 ⟨r, _, rfl, (L1.tupK (mvp (o := .lst (S.pile ++ [.ref r])))) _ _ upd_same, .right op i h0 h1⟩
    refine ⟨_, rfl, f, _, _, _, rfl, rfl, SqT.of (k2 _ _ hf), rfl, _, rfl, A.m, _, _, _, rfl, L2.ob, T.c_Machine, T.n_Machine_hand, fl_len, ?_⟩
    rw [pf_hand]
    have R : Res K A D 1 M H S M _ { S with pile := S.pile ++ [.ref r] } t (pl ++ [none]) := ⟨C2, Pr.full, Pr.time, fun _ z => z, m2, ⟨rfl, rfl, rfl, rfl, Nat.le_succ _, Nat.le_succ _, Nat.le_succ _, by show (S.pile ++ [V.ref r]).length ≤ _; rw [List.length_append]; exact Nat.le_refl _⟩⟩
    exact q _ _ _ _ _ ((R.hand (Same.refl _) x).more (by decide)) (.inl ((h.keep k2).keep (L2.tupK mvm)))
  | right op i j h0 h1 g0 g1 =>
    refine ⟨_, rfl, f, _, _, _, rfl, rfl, SqT.of hf, rfl, rfl, _, rfl, ifF (by decide +kernel) ?_⟩
    refine ⟨_, rfl, f, _, _, _, rfl, rfl, SqT.of hf, rfl, rfl, _, rfl, ifF (by decide +kernel) ?_⟩
    refine ⟨_, rfl, f, _, _, _, rfl, rfl, SqT.of hf, rfl, rfl, _, rfl, ifF (by decide +kernel) ?_⟩
    refine ⟨_, rfl, f, _, _, _, rfl, rfl, SqT.of hf, rfl, rfl, _, rfl, ifT (by decide +kernel) ?_⟩
    refine ⟨_, rfl, f, _, _, _, rfl, rfl, SqT.of hf, rfl, _, rfl, f, _, _, _, rfl, rfl, SqT.of hf, rfl, _, rfl, a, _, _, _, rfl, rfl, SqT.of ha, rfl, op, i, j, rfl, h0, h1, g0, g1, fun v H2 s2 hv => ?_⟩
    have L2 := L.same s2
    refine ⟨_, rfl, A.m, _, _, _, rfl, L2.ob, T.c_Machine, T.n_Machine_hand, fl_len, ?_⟩
    rw [pf_hand]
    have hv' : Val M D H2 v := by
      rcases hv with h | h
      · exact h.val
      · exact (h M).val
    exact q _ _ _ _ _ ((Pr.res.hand s2 v).more (by decide)) (.inr (hv'.mono (fun _ z => z) (L2.tupK mvm)))
  | then_ x vs h hv =>
    refine ⟨_, rfl, f, _, _, _, rfl, rfl, SqT.of hf, rfl, rfl, _, rfl, ifF (by decide +kernel) ?_⟩
    refine ⟨_, rfl, f, _, _, _, rfl, rfl, SqT.of hf, rfl, rfl, _, rfl, ifF (by decide +kernel) ?_⟩
    refine ⟨_, rfl, f, _, _, _, rfl, rfl, SqT.of hf, rfl, rfl, _, rfl, ifF (by decide +kernel) ?_⟩
    refine ⟨_, rfl, f, _, _, _, rfl, rfl, SqT.of hf, rfl, rfl, _, rfl, ifF (by decide +kernel) ?_⟩
    refine ⟨_, rfl, f, _, _, _, rfl, rfl, SqT.of hf, rfl, _, rfl, A.m, _, _, _, rfl, L.ob, T.c_Machine, T.n_Machine_hand, fl_len, ?_⟩
    rw [pf_hand]
    exact q _ _ _ _ _ ((Pr.res.hand (Same.refl _) x).more (by decide)) (.inl (h.keep (L.tupK mvm)))
end
end W83

namespace W83
open PySem PySem.Spec PyProof.Rows L2
abbrev N_Machine_ring : List Str := ["self", "number", "within", "frame", "one"]
abbrev P_Machine_ring : List Str := ["self", "number"]
theorem sc_Machine_ring : FnScope N_Machine_ring P_Machine_ring d_Machine_ring.scope := ⟨rfl, rfl, rfl, by decide +kernel, rfl, by decide +kernel, by decide +kernel⟩

abbrev intsV (ns : List Nat) : List V := ns.map fun k => V.int ((k : Nat) : Int)
def spRing (K : PySem.W.Frag) (D : Nat) : Sp := fun vs H Q _ => ∃ (A : Ad) (M : Nat → Prop) (S : S83) (t : Nat) (pl : List (Option Nat)) (k : Nat), vs = [.ref A.m, .int ((k : Nat) : Int)] ∧ Core K A D M H S t pl ∧ some k ∈ pl ∧ S.pile.length ≤ 40000 ∧
  ∀ (r : Addr) (ls : List Str) (H' : Hp) (i : Nat), Same H H' → H' r = some (.tup (ls.map V.str)) → i < (nums (W S.log)).length → ls.map some = ((nums (W S.log)).drop i).map (fun k => S.labels[k]?) → Q (.ref r) H'
theorem all_ints : ∀ (ns : List Nat), (intsV ns).all flatV = true
  | [] => rfl
  | _ :: ns => all_ints ns
theorem first_at {k : Nat} : ∀ {ns : List Nat}, k ∈ ns → ∃ j, j < ns.length ∧ ns[j]? = some k ∧ ∀ (m z : Nat), m < j → ns[m]? = some z → z ≠ k
  | n :: ns, h => by
    by_cases e : n = k
    · exact ⟨0, by simp, by simp [e], fun m z hm => by omega⟩
    · have h' : k ∈ ns := by
        rcases List.mem_cons.mp h with c | c
        · exact absurd c.symm e
        · exact c
      obtain ⟨j, h1, h2, h3⟩ := first_at h'
      refine ⟨j + 1, by simp; omega, by simpa using h2, fun m z hm hz => ?_⟩
      cases m with
      | zero =>
        have : n = z := by simpa using hz
        rw [← this]; exact e
      | succ m => exact h3 m z (by omega) (by simpa using hz)
section
variable {P : Program} {w : World} {K : PySem.W.Frag} {mg : Str → Option Value} {base : Heap}
theorem ok_ring (T : Top K mg) (D : Nat) : Keeps P w K mg base CX0 1 d_Machine_ring P_Machine_ring (spRing K D) := by
  obtain ⟨fd, F, bd⟩ := T.f_Machine_ring
  refine keeps0 F bd sc_Machine_ring (fun vs H Q E h => ?_) (fun cdv AA outer s H vs Q E hr h => ?_)
  · obtain ⟨A, M, S, t, pl, k, rfl, _⟩ := h
    rfl
  obtain ⟨A, M, S, t, pl, k, rfl, C, hk, hpl, q⟩ := h
  refine ⟨_, (pss_cons (ps_setLc (i := 2) (own := [("frame", 3)]) (g := gName 3) rfl sc_Machine_ring.nd rfl rfl (sw_true rfl rfl rfl (by decide +kernel)) (pi_list (pe_fld (pv 0) rfl)) (blkOk_by (own := [("frame", 3)]) (N := N_Machine_ring) (sc := d_Machine_ring.scope) (by decide +kernel)) (fun _ _ _ _ _ => (pg_name (i := 3) sc_Machine_ring.nd rfl (Or.inl rfl))) (fun _ _ _ _ _ => (pts_one (pt_cmpR op_eq (pe_ix (show IxR _ (rIxT K) from ix_tup) (pv 3) pe_int (fun _ _ => rfl)) pe_str (nomark _)))) (fun _ _ _ _ _ => (pe_ix (show IxR _ (rIxT K) from ix_tup) (pv 3) pe_int (fun _ _ => rfl))))
    (pss_one (ps_ret (pe_callTy call_tuple_of (by rfl) T.z_tuple (by decide +kernel) (pa_cons (pe_lc (own := [("one", 4)]) (g := gName 4) rfl sc_Machine_ring.nd (pi_list (pe_slice sl_list (pv 2) (po_some (pe_bm PySem.F.plainAttrs_list PySem.F.slot_list_index PySem.F.type_list_index mt_index (pv 2) (pa_cons (pv 1) pa_nil))) po_none)) (blkOk_by (own := [("one", 4)]) (N := N_Machine_ring) (sc := d_Machine_ring.scope) (by decide +kernel)) (fun _ _ _ _ _ => (pg_name (i := 4) sc_Machine_ring.nd rfl (Or.inl rfl))) (fun _ _ _ _ _ => pts_nil) (fun _ _ _ _ _ => (pe_ix (show IxR _ (rIxL K) from ix_list) (show PE _ _ (tFld K _ _) from pe_fld (pv 0) rfl) (pv 4) (fun _ _ => rfl)))) pa_nil))))), ?_⟩
  have L := C.lay
  have lf := C.fr.1
  obtain ⟨ns, hns⟩ : ∃ ns, ns = pl.filterMap id := ⟨_, rfl⟩
  have hnw : nums (W S.log) = ns := by rw [hns]; exact C.way.symm
  have hlen : ns.length ≤ pl.length := by rw [hns]; exact List.length_filterMap_le _ _
  refine ⟨_, rfl, A.m, _, _, _, _, rfl, L.ob, T.c_Machine, T.n_Machine_pile, fl_pile, A.pa, rfl, ⟨S.pile, SqL.of L.pi⟩, fun B hB => ?_⟩
  refine lc_list (K := K) (a := A.pa) (xs := S.pile) (fun i G => Same H G ∧ G B = some (.lst (intsV ((pl.take i).filterMap id)))) ⟨same_new hB, upd_same⟩ (fun i G _ h => SqL.of (h.1 _ _ L.pi)) ?_ ?_
  · rintro i v G hi ⟨sG, g1⟩
    have hlt := (List.getElem?_eq_some_iff.mp hi).1
    have hp2 : pl[i]? = some pl[i] := List.getElem?_eq_getElem (by omega)
    obtain ⟨f, fs, rfl, hf, hfr⟩ := C.fr.2 i v _ hi hp2
    have hf1 := sG _ _ hf
    obtain ⟨p, ep⟩ : ∃ p, p = pl[i] := ⟨_, rfl⟩
    rw [← ep] at hfr hp2
    refine ⟨rfl, ?_⟩
    have hfr0 := hfr
    cases hfr
    case back j =>
      refine ⟨_, rfl, f, _, _, _, rfl, rfl, SqT.of hf1, rfl, rfl, _, rfl, ifT (by decide +kernel) ?_⟩
      refine ⟨_, rfl, f, _, _, _, rfl, rfl, SqT.of hf1, rfl, _, g1, small9 ?_, same_grow sG hB, ?_⟩
      · rw [List.length_map]
        have := List.length_filterMap_le id (pl.take i)
        rw [List.length_take] at this
        omega
      · rw [upd_same, take_snoc hp2, List.filterMap_append]
        unfold intsV
        rw [List.map_append]
        rfl
    all_goals
      refine ⟨_, rfl, f, _, _, _, rfl, rfl, SqT.of hf1, rfl, rfl, _, rfl, ifF (by decide +kernel) ?_⟩
      refine ⟨sG, ?_⟩
      rw [g1, take_snoc hp2, List.filterMap_append]
      simp
  · rintro G ⟨sG, g1⟩
    rw [List.take_of_length_le (by omega), ← hns] at g1
    have hkn : k ∈ ns := by
      rw [hns]
      exact List.mem_filterMap.mpr ⟨some k, hk, rfl⟩
    obtain ⟨j, hj, hjk, hjf⟩ := first_at hkn
    -- within[within.index(number):]
    refine ⟨_, rfl, _, rfl, .inl ⟨rfl, _, SqL.of g1⟩, _, rfl, B, intsV ns, .int ((k : Nat) : Int), j, .int ((k : Nat) : Int), rfl, rfl, SqL.of g1, rfl, all_ints ns, by rw [List.getElem?_map, hjk]; rfl, by simp [eqV], fun m z hm hz => ?_, _, rfl, B, intsV ns, rfl, SqL.of g1, fun B2 hB2 => ?_⟩
    · rw [List.getElem?_map] at hz
      cases e : ns[m]? with
      | none => rw [e] at hz; cases hz
      | some y =>
        rw [e] at hz
        cases hz
        have := hjf m y hm e
        simp only [eqV]
        simp
        omega
    have s2 := sG.trans (same_new (o := .lst (cutV (intsV ns) (some ((j : Nat) : Int)) none)) hB2)
    have ecut : cutV (intsV ns) (some ((j : Nat) : Int)) none = intsV (ns.drop j) := by
      unfold cutV
      rw [HT.sIx_nat, HT.sIx_none, List.length_map, Nat.min_eq_left (by omega), List.take_of_length_le (by simp)]
      exact (List.map_drop ..).symm
    have g2 : upd G B2 (.lst (cutV (intsV ns) (some ((j : Nat) : Int)) none)) B2 = some (.lst (intsV (ns.drop j))) := by rw [upd_same, ecut]
    -- the labels
    have lab : ∀ n ∈ ns, ∃ l, S.labels[n]? = some l := fun n hn => by
      rw [← hnw] at hn
      unfold nums at hn
      obtain ⟨p, hp, e⟩ := List.mem_filterMap.mp hn
      cases er : (W S.log).1[p]? with
      | none => rw [er] at e; cases e
      | some r =>
        rw [er] at e
        have e : r.n = n := Option.some.inj e
        rw [← e]
        exact ⟨_, C.good.fact.lab r (List.mem_of_getElem? er)⟩
    have labs : ∀ (zs : List Nat), (∀ n ∈ zs, ∃ l, S.labels[n]? = some l) → ∃ ls : List Str, ls.map some = zs.map (fun k => S.labels[k]?) := fun zs => by
      induction zs with
      | nil => exact fun _ => ⟨[], rfl⟩
      | cons z zs ih =>
        intro h
        obtain ⟨ls, e⟩ := ih fun n hn => h n (List.mem_cons_of_mem _ hn)
        obtain ⟨l, hl⟩ := h z List.mem_cons_self
        exact ⟨l :: ls, by simp only [List.map_cons, e, hl]⟩
    obtain ⟨ls, els⟩ := labs (ns.drop j) fun n hn => lab n (List.mem_of_mem_drop hn)
    have lls : ls.length = (ns.drop j).length := by
      have := congrArg List.length els
      simpa using this
    refine ⟨_, rfl, ⟨_, SqL.of g2⟩, fun B3 hB3 => ?_⟩
    refine lc_list (K := K) (a := B2) (xs := intsV (ns.drop j)) (fun i G' => Same (upd G B2 (.lst (cutV (intsV ns) (some ((j : Nat) : Int)) none))) G' ∧ G' B3 = some (.lst ((ls.take i).map V.str))) ⟨same_new hB3, upd_same⟩ (fun i G _ h => SqL.of (h.1 _ _ g2)) ?_ ?_
    · rintro i v G' hi ⟨sG', g3⟩
      have s3 := s2.trans sG'
      have L3 := L.same s3
      rw [List.getElem?_map] at hi
      cases en : (ns.drop j)[i]? with
      | none => rw [en] at hi; cases hi
      | some n =>
        rw [en] at hi
        cases hi
        have hil : i < ls.length := by rw [lls]; exact (List.getElem?_eq_some_iff.mp en).1
        have hls : ls[i]? = some ls[i] := List.getElem?_eq_getElem hil
        have hlab : S.labels[n]? = some ls[i] := by
          have := congrArg (fun z => z[i]?) els
          simp only [List.getElem?_map, en, hls, Option.map_some] at this
          exact (Option.some.inj this).symm
        refine ⟨rfl, ?_⟩
        refine ⟨_, rfl, A.m, _, _, _, _, rfl, L3.ob, T.c_Machine, T.n_Machine_labels, fl_labels, _, rfl, A.la, _, _, _, rfl, rfl, SqL.of L3.la, at_get (by rw [List.getElem?_map, hlab]; rfl), _, g3, small9 ?_, same_grow sG' hB3, ?_⟩
        · rw [List.length_map, List.length_take]
          rw [List.length_drop] at lls
          omega
        · rw [upd_same, take_snoc hls, List.map_append]
          rfl
    · rintro G' ⟨sG', g3⟩
      have e0 : (intsV (ns.drop j)).length = ls.length := by rw [List.length_map, lls]
      rw [e0, List.take_of_length_le (Nat.le_refl _)] at g3
      refine ⟨B3, _, rfl, .inl ⟨SqL.of g3, fun r hr' => ?_⟩⟩
      exact q r ls _ j ((s2.trans sG').trans (same_new hr')) upd_same (by rw [hnw]; exact hj) (by rw [hnw]; exact els)
end
end W83

namespace W83
open PySem PySem.Spec PyProof.Rows L2
abbrev N_Machine_entered : List Str := ["self", "mark", "number", "thing"]
abbrev P_Machine_entered : List Str := ["self", "mark"]
theorem sc_Machine_entered : FnScope N_Machine_entered P_Machine_entered d_Machine_entered.scope := ⟨rfl, rfl, rfl, by decide +kernel, rfl, by decide +kernel, by decide +kernel⟩

section
variable {K : PySem.W.Frag} {mg : Str → Option Value}
theorem Top.ring (T : Top K mg) : PySem.RgX.RgTxt K mg (He.ga K "Ring") (He.ma K (He.ga K "Ring") "__init__") := by
  obtain ⟨⟨a1, a2, a3, a4⟩, b1, b2, b3, b4, b5, b6⟩ := T.x.rg
  obtain ⟨fd, F, _⟩ := T.f_Ring_init
  obtain ⟨oc, od, dV, kV, doc, pm, an, cdv, ct, osl, e1, e2, e3, e4, _⟩ := F.ex
  refine ⟨T.g_Ring, rgB_ok b3, a1, a2, a3, T.n_Ring_names, a4, b1, b2, b4, b5, b6, T.e_Ring, ?_⟩
  have e5 : dV = .none := by
    rcases e4 with ⟨_, h⟩ | ⟨h, _⟩
    · exact h
    · exact absurd rfl h
  rw [e1, e5] at e2
  exact ⟨oc, od, kV, doc, pm, an, cdv, ct, osl, _, _, _, _, _, _, e2, e3⟩
end
def RingOut (S : S83) (H : Hp) (r : Addr) : Prop := ∃ (ls : List Str) (i : Nat), H r = some (.tup (ls.map V.str)) ∧ i < (nums (W S.log)).length ∧ ls.map some = ((nums (W S.log)).drop i).map (fun k => S.labels[k]?)
/-- what an exception must find -/
def EK (K : PySem.W.Frag) (A : Ad) (n : Nat) (E : XK) : Prop := ∀ (S : S83) (t : Nat) (dd r : Addr) (H : Hp), Lay K A H S → Good S.log S.labels t → S.log.length ≤ n → RingOut S H r → H dd = some (.xd [("names", .ref r)]) → E (.ref (He.ga K "Ring")) (some dd) H
def spEntered (K : PySem.W.Frag) (D : Nat) : Sp := fun vs H Q E => ∃ (A : Ad) (M : Nat → Prop) (S : S83) (t : Nat) (pl : List (Option Nat)) (a : Addr) (k : Nat), vs = [.ref A.m, .ref a] ∧ Pre K A D M H S t pl ∧ t < S.steps ∧ H a = some (.tup [.str "at", .int ((k : Nat) : Int)]) ∧ M k ∧
  PostX K A D 6 M H S Q ∧ EK K A 30000 E
section
variable {P : Program} {w : World} {K : PySem.W.Frag} {mg : Str → Option Value} {base : Heap}
theorem ok_entered (T : Top K mg) (D : Nat) : Keeps P w K mg base (L2N.CX P w) 4 d_Machine_entered P_Machine_entered (spEntered K D) := by
  obtain ⟨fd, F, bd⟩ := T.f_Machine_entered
  obtain ⟨_, G_Runner_note⟩ := ok_note (P := P) (w := w) (base := base) T
  obtain ⟨_, G_Machine_ring⟩ := ok_ring (P := P) (w := w) (base := base) T D
  refine keepsX F bd sc_Machine_entered (fun vs H Q E h => ?_) (fun cdv AA outer s H vs Q E hr h => ?_)
  · obtain ⟨A, M, S, t, pl, a, k, rfl, _⟩ := h
    rfl
  obtain ⟨A, M, S, t, pl, a, k, rfl, Pr, htt, ha, hMk, q, hE⟩ := h
  refine ⟨_, (pss_cons (ps_set (i := 2) sc_Machine_entered.nd rfl (Or.inl rfl) (pe_ix ix_tup (pv 1) pe_int (fun _ _ => rfl)))
    (pss_cons (ps_set (i := 3) sc_Machine_entered.nd rfl (Or.inl rfl) (pe_dget (hu_of hr) (pe_fld (pv 0) rfl) (pv 2) (fun _ _ => rfl)))
    (pss_one (ps_if (pt_val (pe_callB call_isi (by rfl) T.z_isinstance (by decide +kernel) (pa_cons (pv 3) (pa_cons (pe_glob (v := V.ref (He.ga K "Ready")) rfl T.g_Ready rfl) pa_nil))))
    (pss_cons (ps_expr (pe_meth (pv 0) T.c_Machine T.m_note G_Runner_note.ok (hr.mono (by decide)) G_Runner_note.bd .nil pass0 (pa_cons pe_str (pa_cons (pv 2) pa_nil))))
    (pss_one (ps_fld (pv 0) (pe_fld (pv 3) rfl) rfl)))
    (pss_one (ps_if (pt_val (pe_callB call_isi (by rfl) T.z_isinstance (by decide +kernel) (pa_cons (pv 3) (pa_cons (pe_glob (v := V.ref (He.ga K "Waiting")) rfl T.g_Waiting rfl) pa_nil))))
    (pss_cons (ps_expr (pe_meth (pv 0) T.c_Machine T.m_note G_Runner_note.ok (hr.mono (by decide)) G_Runner_note.bd .nil pass0 (pa_cons pe_str (pa_cons (pv 2) pa_nil))))
    (pss_cons (ps_expr (pe_bm PySem.F.plainAttrs_list PySem.F.slot_list_append PySem.F.type_list_append mt_append (pe_fld (pv 0) rfl) (pa_cons (pe_tup (pa_cons pe_str (pa_cons (pv 2) pa_nil))) pa_nil)))
    (pss_cons (ps_dput (hu_of hr) (pe_fld (pv 0) rfl) (pv 2) (pe_mkO T.x.mkU rfl T.g_Underway) rfl)
    (pss_one (ps_fld (pv 0) (pe_fld (pv 3) rfl) rfl)))))
    (pss_one (ps_raiseRg rfl T.ring hr (L2N.takes_of rfl rfl rfl rfl) (pa_cons (pe_meth (pv 0) T.c_Machine T.m_ring G_Machine_ring.ok (hr.mono (by decide)) G_Machine_ring.bd .nil pass0 (pa_cons (pv 2) pa_nil)) pa_nil))))))))), ?_⟩
  have L := Pr.core.lay
  have l1 := Pr.la
  have l2 := Pr.lg
  have l3 := Pr.th
  have l4 := Pr.pi
  obtain ⟨x, hx⟩ := Pr.full k hMk
  obtain ⟨q0, hq0, e0, e1⟩ := valV_mem hx
  obtain ⟨k', x', rfl, hkl, nd⟩ := Pr.core.keys q0 hq0
  obtain rfl : k' = k := by
    have : ((k' : Nat) : Int) = k := by injection e1
    omega
  obtain rfl : x' = x := by injection e0
  have hl : S.labels[k']? = some S.labels[k'] := List.getElem?_eq_getElem hkl
  refine ⟨_, rfl, a, _, _, _, rfl, rfl, SqT.of ha, rfl, ?_⟩
  refine ⟨_, rfl, A.m, _, _, _, _, rfl, L.ob, T.c_Machine, T.n_Machine_things, fl_things, _, rfl, A.ta, .ref x', rfl, hx ▸ DGet.k (k := .inl ((k' : Nat) : Int)) L.th, ?_⟩
  cases nd with
  | ready dx y h hy =>
    refine ⟨_, rfl, _, _, _, _, _, rfl, .own _, .base (.ins h T.c_Ready T.x.iR.1 T.x.cg T.x.ct T.x.iR.2), T.x.rr, _, rfl, ifT rfl ?_⟩
    refine ⟨_, rfl, A.m, _, _, rfl, L.ob, fl_note, _, rfl, ?_⟩
    refine ⟨A, S, .again, k', _, rfl, L, hl, by omega, fun v H1 m1 L1 => ?_⟩
    have C1 := Pr.core.again (Nat.le_of_lt htt) m1 hl L1
    have h1 := L.ins m1 (by simp) h
    refine ⟨_, rfl, x', _, _, _, _, rfl, h1, T.c_Ready, T.n_Ready_value, by rfl, _, rfl, A.m, _, _, _, rfl, L1.ob, T.c_Machine, T.n_Machine_hand, fl_len, ?_⟩
    rw [pf_hand]
    have R : Res K A D 1 M H S M H1 (S.noted v .again k' S.labels[k']) S.steps pl := ⟨C1, Pr.full, Nat.le_refl _, fun _ z => z, m1, ⟨rfl, rfl, rfl, rfl, Nat.le_succ _, by show (S.log ++ [_]).length ≤ _; rw [List.length_append]; exact Nat.le_refl _, Nat.le_succ _, Nat.le_succ _⟩⟩
    exact q _ _ _ _ _ ((R.hand (Same.refl _) y).more (by decide)) (.inr ((hy.mono (fun _ z => z) (L.tupK m1)).mono (fun _ z => z) (L1.tupK mvm)))
  | wait dx y h hy hn =>
    refine ⟨_, rfl, _, _, _, _, _, rfl, .own _, .base (.ins h T.c_Waiting T.x.iW.1 T.x.cg T.x.ct T.x.iW.2), T.x.wr, _, rfl, ifF rfl ?_⟩
    refine ⟨_, rfl, _, _, _, _, _, rfl, .own _, .base (.ins h T.c_Waiting T.x.iW.1 T.x.cg T.x.ct T.x.iW.2), T.x.ww, _, rfl, ifT rfl ?_⟩
    refine ⟨_, rfl, A.m, _, _, rfl, L.ob, fl_note, _, rfl, ?_⟩
    refine ⟨A, S, .enter, k', _, rfl, L, hl, by omega, fun v H1 m1 L1 => ?_⟩
    refine ⟨_, rfl, A.m, _, _, _, _, rfl, L1.ob, T.c_Machine, T.n_Machine_pile, fl_pile, .inl ⟨rfl, _, SqL.of L1.pi⟩, _, rfl, small50 (by simp), fun b hb => ?_⟩
    have e2 := same_new (o := .tup [.str "back", .int ((k' : Nat) : Int)]) hb
    have L2 := L1.same e2
    refine ⟨A.pa, _, _, rfl, rfl, L2.pi, small9 (by show S.pile.length ≤ _; omega), ?_⟩
    have L3 := L2.pile (S.pile ++ [.ref b])
    intro u du hu hdu hne
    have e4 : Same _ (upd (upd (upd _ A.pa (.lst (S.pile ++ [V.ref b]))) du (.own u)) u (.ins (He.ga K "Underway") du [])) := fun c o e => by
      rw [upd_ne (ne_of_none e hu), upd_ne (ne_of_none e hdu)]
      exact e
    have L4 := L3.same e4
    refine ⟨_, rfl, A.m, _, _, _, _, rfl, L4.ob, T.c_Machine, T.n_Machine_things, fl_things, _, rfl, A.ta, _, rfl, DPut.k (k := .inl ((k' : Nat) : Int)) L4.th (small9 (by show S.things.length ≤ _; omega)), ?_⟩
    have L5 := L4.thing (putK S.things (.inl ((k' : Nat) : Int)) (.ref u))
    have ma := (mvp (A := A) (o := .lst (S.pile ++ [.ref b])) (H := upd H1 b (.tup [.str "back", .int ((k' : Nat) : Int)]))).trans ((Mv.same e4).trans (mvt (o := .dK (putK S.things (.inl ((k' : Nat) : Int)) (.ref u)))))
    have m5 := (m1.trans (Mv.same e2)).trans ma
    have h5 := L.ins m5 (by simp) h
    refine ⟨_, rfl, x', _, _, _, _, rfl, h5, T.c_Waiting, T.n_Waiting_text, by rfl, _, rfl, A.m, _, _, _, rfl, L5.ob, T.c_Machine, T.n_Machine_hand, fl_len, ?_⟩
    rw [pf_hand]
    have L6 : Lay K A _ (S.enterS v (.ref b) k' S.labels[k'] u y) := L5.fld (S.enterS v (.ref b) k' S.labels[k'] u y)
    have hb6 := (L5.tupK (mvm (o := .ins (He.ga K "Machine") A.dx (flds A (S.enterS v (.ref b) k' S.labels[k'] u y))))) _ _ ((L2.tupK ma) _ _ upd_same)
    have hu6 := L5.ins (mvm (o := .ins (He.ga K "Machine") A.dx (flds A (S.enterS v (.ref b) k' S.labels[k'] u y)))) (by simp) (L4.ins (mvt (o := .dK (putK S.things (.inl ((k' : Nat) : Int)) (.ref u)))) (by simp) upd_same)
    have C6 := Pr.core.enter htt (m5.trans mvm) hl hn L6 hb6 hu6
    refine q M _ _ _ _ ⟨C6, full_put Pr.full _ rfl, Nat.le_refl _, fun _ z => z, m5.trans mvm, ⟨rfl, rfl, rfl, rfl, Nat.le_add_right _ _, ?_, ?_, ?_⟩⟩ (.inl (hy.keep (L.tupK (m5.trans mvm))))
    · show (S.log ++ [_]).length ≤ _
      rw [List.length_append, List.length_singleton]; omega
    · exact Nat.le_trans (putK_len _ _ _) (by omega)
    · show (S.pile ++ [_]).length ≤ _
      rw [List.length_append, List.length_singleton]; omega
  | under dx h hp =>
    refine ⟨_, rfl, _, _, _, _, _, rfl, .own _, .base (.ins h T.c_Underway T.x.iU.1 T.x.cg T.x.ct T.x.iU.2), T.x.ur, _, rfl, ifF rfl ?_⟩
    refine ⟨_, rfl, _, _, _, _, _, rfl, .own _, .base (.ins h T.c_Underway T.x.iU.1 T.x.cg T.x.ct T.x.iU.2), T.x.uw, _, rfl, ifF rfl ?_⟩
    refine ⟨_, rfl, A.m, _, _, rfl, L.ob, fl_ring, _, rfl, ?_⟩
    refine ⟨A, M, S, t, pl, k', rfl, Pr.core, hp, by omega, fun r ls H1 i s1 hr1 hi hls => ?_⟩
    refine ⟨_, rfl, fun d hd => ?_⟩
    have s2 := same_new (o := .xd [(("names" : Str), .ref r)]) hd
    exact hE S t d r _ (L.same (s1.trans s2)) Pr.core.good l2 ⟨ls, i, s2 _ _ hr1, hi, hls⟩ upd_same
end
end W83

namespace W83
open PySem PySem.Spec PyProof.Rows L2
abbrev N_take_step : List Str := ["runner", "hand"]
abbrev P_take_step : List Str := ["runner"]
theorem sc_take_step : FnScope N_take_step P_take_step d_take_step.scope := ⟨rfl, rfl, rfl, by decide +kernel, rfl, by decide +kernel, by decide +kernel⟩

def spStep (K : PySem.W.Frag) (D : Nat) : Sp := fun vs H Q E => ∃ (A : Ad) (M : Nat → Prop) (S : S83) (t : Nat) (pl : List (Option Nat)) (b : Bool) (hv : Nat), vs = [.ref A.m] ∧ StP K A D M H S t pl b hv ∧ Go M D H S.hand S.pile ∧ S.steps ≤ 1000 ∧
  (∀ (M' : Nat → Prop) (H' : Hp) (S' : S83) (t' : Nat) (pl' : List (Option Nat)) (hv' : Nat), StP K A D M' H' S' t' pl' false hv' → S'.steps = S.steps + 1 → S'.ended = S.ended → Q .non H') ∧ EK K A 30000 E
section
variable {P : Program} {w : World} {K : PySem.W.Frag} {mg : Str → Option Value} {base : Heap} {A : Ad} {D : Nat} {M M' : Nat → Prop} {H H' H'' H1 : Hp} {S S' S1 : S83} {t t' : Nat} {pl pl' : List (Option Nat)} {b : Bool} {hv n : Nat}
theorem step_done (s : StP K A D M H S t pl false hv) (e1 : S1.steps = S.steps + 1) (e2 : S1.rest = S.rest) (e3 : S1.words = S.words) (e4 : S1.labels.length ≤ S.labels.length) (e5 : S1.log.length ≤ S.log.length) (e6 : S1.things.length ≤ S.things.length) (e7 : S1.pile.length ≤ S.pile.length)
    (k : TupK H H') (R : Res K A D 6 M H1 S1 M' H' S' t' pl') (h : HandR M' D H' S'.hand) : ∃ hv', StP K A D M' H' S' t' pl' false hv' := by
  have g := R.gr
  have g1 := g.la
  have g2 := g.lg
  have g3 := g.th
  have g4 := g.pi
  have b1 := s.bl
  have b2 := s.bg
  have b3 := s.bt
  have b4 := s.bw
  have es : S'.steps = S.steps + 1 := g.steps.trans e1
  have hrest : ∀ v ∈ S.rest, RestE M H v := by
    rcases s.rest with ⟨h, _⟩ | ⟨_, h⟩
    · cases h
    · exact h
  have er : S'.rest = S.rest := g.rest.trans e2
  have ew : S'.words = S.words := g.words.trans e3
  have go : ∀ hv', hv' ≤ 1 → ((S'.hand = .non ∧ hv' = 0 ∧ S'.pile = []) ∨ (Nv M' D H' S'.hand ∧ hv' = 0) ∨ (Val M' D H' S'.hand ∧ hv' = 1)) → ∃ hv', StP K A D M' H' S' t' pl' false hv' := fun hv' l hh =>
    ⟨hv', R.core, R.full, R.time, hh, .inr ⟨rfl, by rw [er]; exact fun v hv => (hrest v hv).mono R.mono k⟩, by omega, by omega, by omega, by rw [er, ew]; omega, by rw [ew]; exact s.ws⟩
  rcases h with h | h
  · rcases h.two with h | h
    · exact go 0 (by omega) (.inr (.inl ⟨h, rfl⟩))
    · exact go 1 (by omega) (.inr (.inr ⟨h, rfl⟩))
  · exact go 1 (by omega) (.inr (.inr ⟨h, rfl⟩))
theorem pf_stepsV (v : V) {i : Nat} (h : v = .int ((i : Nat) : Int)) : putF "steps" v (flds A S) = flds A { S with steps := i } := by
  subst h
  exact pf_steps i
theorem fit_frm {fs xs : List V} {p : Option Nat} (f : Fit M D H fs xs) (g : FrmS M D H' fs p) : p = none := by
  cases f <;> cases g <;> rfl
theorem opened_res (p : Pre K A D M H S t pl) {f y : V} (m : Mv A H H') (L' : Lay K A H' { S with pile := S.pile ++ [f], hand := y }) (hf : Frm M D H' f none) : Res K A D 6 M H S M H' { S with pile := S.pile ++ [f], hand := y } t (pl ++ [none]) :=
  ⟨p.core.push L' m hf, p.full, p.time, fun _ z => z, m, ⟨rfl, rfl, rfl, rfl, Nat.le_add_right _ _, Nat.le_add_right _ _, Nat.le_add_right _ _, by show (S.pile ++ [f]).length ≤ _; rw [List.length_append, List.length_singleton]; omega⟩⟩
theorem ok_take_step (T : Top K mg) (D : Nat) : Keeps P w K mg base (L2N.CX P w) (2 * D + 6) d_take_step P_take_step (spStep K D) := by
  obtain ⟨fd, F, bd⟩ := T.f_take_step
  obtain ⟨_, G_opened⟩ := ok_opened (P := P) (w := w) (base := base) T
  obtain ⟨_, G_let_in⟩ := ok_let_in (P := P) (w := w) (base := base) T D
  obtain ⟨_, G_shape_made⟩ := ok_shape_made (P := P) (w := w) (base := base) T D
  obtain ⟨_, G_framed⟩ := ok_framed (P := P) (w := w) (base := base) T D
  obtain ⟨_, G_Machine_entered⟩ := ok_entered (P := P) (w := w) (base := base) T D
  refine keepsX F bd sc_take_step (fun vs H Q E h => ?_) (fun cdv AA outer s H vs Q E hr h => ?_)
  · obtain ⟨A, M, S, t, pl, b, hv, rfl, _⟩ := h
    rfl
  obtain ⟨A, M, S, t, pl, b, hv, rfl, s, go, hst, q, hE⟩ := h
  refine ⟨_, (pss_cons (ps_fld (pv 0) (pe_op op_add (pe_fld (pv 0) rfl) pe_int) rfl)
    (pss_cons (ps_set (i := 1) sc_take_step.nd rfl (Or.inl rfl) (pe_fld (pv 0) rfl))
    (pss_one (ps_if (pt_cmpR op_eq (pe_ix ix_tup (pv 1) pe_int (fun _ _ => rfl)) pe_str (nomark _))
    (pss_one (ps_expr (pe_call G_opened.ok (hr.mono (by omega)) rfl T.g_opened G_opened.kp G_opened.bd .nil pass0 (pa_cons (pv 0) (pa_cons (pe_tup (pa_cons pe_str (pa_cons (pe_ix ix_tup (pv 1) pe_int (fun _ _ => rfl)) pa_nil))) (pa_cons (pe_ix ix_tup (pv 1) pe_int (fun _ _ => rfl)) pa_nil))))))
    (pss_one (ps_if (pt_cmpR op_eq (pe_ix ix_tup (pv 1) pe_int (fun _ _ => rfl)) pe_str (nomark _))
    (pss_one (ps_expr (pe_call G_opened.ok (hr.mono (by omega)) rfl T.g_opened G_opened.kp G_opened.bd .nil pass0 (pa_cons (pv 0) (pa_cons (pe_tup (pa_cons pe_str (pa_cons (pe_ix ix_tup (pv 1) pe_int (fun _ _ => rfl)) (pa_cons (pe_ix ix_tup (pv 1) pe_int (fun _ _ => rfl)) pa_nil)))) (pa_cons (pe_ix ix_tup (pv 1) pe_int (fun _ _ => rfl)) pa_nil))))))
    (pss_one (ps_if (pt_cmpR op_eq (pe_ix ix_tup (pv 1) pe_int (fun _ _ => rfl)) pe_str (nomark _))
    (pss_one (ps_expr (pe_call G_opened.ok (hr.mono (by omega)) rfl T.g_opened G_opened.kp G_opened.bd .nil pass0 (pa_cons (pv 0) (pa_cons (pe_tup (pa_cons pe_str (pa_cons (pe_ix ix_tup (pv 1) pe_int (fun _ _ => rfl)) pa_nil))) (pa_cons (pe_ix ix_tup (pv 1) pe_int (fun _ _ => rfl)) pa_nil))))))
    (pss_one (ps_if (pt_cmpR op_eq (pe_ix ix_tup (pv 1) pe_int (fun _ _ => rfl)) pe_str (nomark _))
    (pss_cons (ps_fld (pv 0) (pe_op op_add (pe_fld (pv 0) rfl) pe_int) rfl)
    (pss_one (ps_expr (pe_call G_opened.ok (hr.mono (by omega)) rfl T.g_opened G_opened.kp G_opened.bd .nil pass0 (pa_cons (pv 0) (pa_cons (pe_tup (pa_cons pe_str (pa_cons (pe_ix ix_tup (pv 1) pe_int (fun _ _ => rfl)) pa_nil))) (pa_cons (pe_ix ix_tup (pv 1) pe_int (fun _ _ => rfl)) pa_nil)))))))
    (pss_one (ps_if (pt_cmpR op_eq (pe_ix ix_tup (pv 1) pe_int (fun _ _ => rfl)) pe_str (nomark _))
    (pss_one (ps_expr (pe_call G_let_in.ok (hr.mono (by omega)) rfl T.g_let_in G_let_in.kp G_let_in.bd .nil pass0 (pa_cons (pv 0) pa_nil))))
    (pss_one (ps_if (pt_cmpR op_eq (pe_ix ix_tup (pv 1) pe_int (fun _ _ => rfl)) pe_str (nomark _))
    (pss_one (ps_expr (pe_call G_shape_made.ok (hr.mono (by omega)) rfl T.g_shape_made G_shape_made.kp G_shape_made.bd .nil pass0 (pa_cons (pv 0) pa_nil))))
    (pss_one (ps_if (pt_cmpR op_in_seq (pe_ix ix_tup (pv 1) pe_int (fun _ _ => rfl)) (pe_glob (v := V.ref (He.ga K "VALUES")) rfl T.g_VALUES rfl) rfl)
    (pss_one (ps_expr (pe_call G_framed.ok (hr.mono (by omega)) rfl T.g_framed G_framed.kp G_framed.bd .nil pass0 (pa_cons (pv 0) (pa_cons (pe_bm0 PySem.F.plainAttrs_list PySem.F.slot_list_pop PySem.F.type_list_pop mt_pop (pe_fld (pv 0) rfl)) pa_nil)))))
    (pss_one (ps_expr (pe_meth (pv 0) T.c_Machine T.m_entered G_Machine_entered.ok (hr.mono (by omega)) G_Machine_entered.bd .nil (L2N.passes_call (L2N.takes_of rfl rfl rfl rfl) (fun _ _ _ _ h => h)) (pa_cons (pv 1) pa_nil)))))))))))))))))))), ?_⟩
  have L := s.core.lay
  have b1 := s.bl
  have b2 := s.bg
  have b3 := s.bt
  have b4 := s.bw
  have hnn : S.hand ≠ .non := by
    cases go with
    | nv a xs e => rw [e]; intro z; cases z
    | val a f xs fs ps e => rw [e]; intro z; cases z
  obtain ⟨rfl, _⟩ := s.rest0 hnn
  refine ⟨_, rfl, A.m, _, _, _, _, rfl, L.ob, T.c_Machine, T.n_Machine_steps, fl_steps, _, _, rfl, rfl, _, rfl, A.m, _, _, _, rfl, L.ob, T.c_Machine, T.n_Machine_steps, fl_len, ?_⟩
  rw [pf_stepsV (i := S.steps + 1) (h := ?hh)]
  case hh => rfl
  obtain ⟨S1, hS1⟩ : ∃ S1, S1 = { S with steps := S.steps + 1 } := ⟨_, rfl⟩
  have L1 := L.fld { S with steps := S.steps + 1 }
  have C1 := s.core.keep (fun _ z => z) L1 mvm
  have f1 : Full M { S with steps := S.steps + 1 } := s.full
  rw [← hS1] at L1 C1 f1
  rw [← hS1]
  have m1 : Mv A H (upd H A.m (.ins (He.ga K "Machine") A.dx (flds A S1))) := mvm
  obtain ⟨H1, hH1⟩ : ∃ H1, H1 = upd H A.m (.ins (He.ga K "Machine") A.dx (flds A S1)) := ⟨_, rfl⟩
  rw [← hH1] at L1 C1 m1
  rw [← hH1]
  have k1 := L.tupK m1
  have hd1 : S1.hand = S.hand := by rw [hS1]
  have pi1 : S1.pile = S.pile := by rw [hS1]
  have la1 : S1.labels = S.labels := by rw [hS1]
  have lg1 : S1.log = S.log := by rw [hS1]
  have th1 : S1.things = S.things := by rw [hS1]
  have st1 : S1.steps = S.steps + 1 := by rw [hS1]
  have re1 : S1.rest = S.rest := by rw [hS1]
  have wo1 : S1.words = S.words := by rw [hS1]
  have en1 : S1.ended = S.ended := by rw [hS1]
  have Pr : Pre K A D M H1 S1 t pl := ⟨C1, f1, by have := s.time; omega, by rw [la1]; omega, by rw [lg1]; omega, by rw [th1]; omega, by rw [pi1]; omega⟩
  have fin : ∀ (M' : Nat → Prop) (H' : Hp) (S' : S83) (t' : Nat) (pl' : List (Option Nat)), Res K A D 6 M H1 S1 M' H' S' t' pl' → HandR M' D H' S'.hand → Q .non H' := fun M' H' S' t' pl' R hh => by
    obtain ⟨hv', s'⟩ := step_done s st1 re1 wo1 (by rw [la1]; omega) (by rw [lg1]; omega) (by rw [th1]; omega) (by rw [pi1]; omega) (L.tupK (m1.trans R.mv)) R hh
    exact q M' H' S' t' pl' hv' s' (R.gr.steps.trans st1) (R.gr.ended.trans en1)
  refine ⟨_, rfl, A.m, _, _, _, _, rfl, L1.ob, T.c_Machine, T.n_Machine_hand, fl_hand, ?_⟩
  rw [hd1]
  cases go with
  | val a f xs fs ps e h0 hs ep hf ft =>
    have ha1 := k1 _ _ h0
    have hs1 := hs.mono (fun _ z => z) k1 fun v (h : Tm M H D v) => h.keep k1
    have hf1 := k1 _ _ hf
    have ft1 := ft.mono k1
    rw [e]
    obtain ⟨ql, p, epl, lq, f', fs', ef, hff, hfr⟩ := s.core.top ep
    cases ef
    rw [hf] at hff
    cases hff
    obtain rfl := fit_frm ft hfr
    have hpi := L1.pi
    rw [pi1, ep] at hpi
    have ep1 : S1.pile = ps ++ [.ref f] := pi1.trans ep
    have L2 := L1.pile ps
    have C2 := C1.pop L2 mvp ep1 epl
    have k2 := L1.tupK (mvp (o := .lst ps))
    have lps : ps.length ≤ S.pile.length := by rw [ep, List.length_append]; omega
    have Pr2 : Pre K A D M _ { S1 with pile := ps } t ql := ⟨C2, f1, Pr.time, Pr.la, Pr.lg, Pr.th, by show ps.length ≤ _; omega⟩
    have hd2 : ({ S1 with pile := ps } : S83).hand = .ref a := hd1.trans e
    have hs1' := hs1
    cases hs1
    all_goals
      refine ⟨_, rfl, a, _, _, _, rfl, rfl, SqT.of ha1, rfl, rfl, _, rfl, ifF (by decide +kernel) ?_⟩
      refine ⟨_, rfl, a, _, _, _, rfl, rfl, SqT.of ha1, rfl, rfl, _, rfl, ifF (by decide +kernel) ?_⟩
      refine ⟨_, rfl, a, _, _, _, rfl, rfl, SqT.of ha1, rfl, rfl, _, rfl, ifF (by decide +kernel) ?_⟩
      refine ⟨_, rfl, a, _, _, _, rfl, rfl, SqT.of ha1, rfl, rfl, _, rfl, ifF (by decide +kernel) ?_⟩
      refine ⟨_, rfl, a, _, _, _, rfl, rfl, SqT.of ha1, rfl, rfl, _, rfl, ifF (by decide +kernel) ?_⟩
      refine ⟨_, rfl, a, _, _, _, rfl, rfl, SqT.of ha1, rfl, rfl, _, rfl, ifF (by decide +kernel) ?_⟩
      refine ⟨_, rfl, a, _, _, _, rfl, rfl, SqT.of ha1, rfl, _, _, rfl, .inr (T.x.vals _), rfl, rfl, _, rfl, ifT (by decide +kernel) ?_⟩
      refine ⟨_, rfl, _, rfl, A.m, _, _, _, _, rfl, L1.ob, T.c_Machine, T.n_Machine_pile, fl_pile, .inl ⟨rfl, _, SqL.of L1.pi⟩, A.pa, _, _, rfl, rfl, hpi, lastA, ?_⟩
      rw [List.dropLast_concat]
      refine ⟨A, M, _, t, ql, a, f, _, fs, rfl, Pr2, hd2, k2 _ _ ha1, k2 _ _ hf1, ft1.mono k2, fun M' H' S' t' pl' R hh => ?_⟩
      obtain ⟨hv', s'⟩ := step_done (S1 := { S1 with pile := ps }) s st1 re1 wo1 (by show S1.labels.length ≤ _; rw [la1]; omega) (by show S1.log.length ≤ _; rw [lg1]; omega) (by show S1.things.length ≤ _; rw [th1]; omega) lps (L.tupK (m1.trans (mvp.trans R.mv))) R hh
      exact q M' H' S' t' pl' hv' s' (R.gr.steps.trans st1) (R.gr.ended.trans en1)
  | nv a xs e ha hs n1 n2 =>
    have ha1 := k1 _ _ ha
    have hs1 := hs.mono (fun _ z => z) k1 fun v (h : Tm M H D v) => h.keep k1
    rw [e]
    have hda : S1.hand = .ref a := hd1.trans e
    cases hs1 with
    | stop x => exact absurd rfl n1
    | name x => exact absurd rfl n2
    | call x y hx hy =>
      refine ⟨_, rfl, a, _, _, _, rfl, rfl, SqT.of ha1, rfl, rfl, _, rfl, ifT (by decide +kernel) ?_⟩
      refine ⟨_, rfl, _, rfl, a, _, _, _, rfl, rfl, SqT.of ha1, rfl, small50 (by simp), fun u hu => ?_⟩
      have e2 := same_new (o := .tup [.str "give", y]) hu
      have L2 := L1.same e2
      refine ⟨_, rfl, a, _, _, _, rfl, rfl, SqT.of (e2 _ _ ha1), rfl, ?_⟩
      refine ⟨A, S1, .ref u, x, rfl, L2, by rw [pi1]; omega, fun H3 m3 L3 => ?_⟩
      exact fin _ _ _ _ _ (opened_res Pr ((Mv.same e2).trans m3) L3 ⟨u, _, rfl, (L2.tupK m3) _ _ upd_same, .give y (hy.keep (L1.tupK ((Mv.same e2).trans m3)))⟩) (.inl (hx.keep (L1.tupK ((Mv.same e2).trans m3))))
    | does op x y hx hy =>
      refine ⟨_, rfl, a, _, _, _, rfl, rfl, SqT.of ha1, rfl, rfl, _, rfl, ifF (by decide +kernel) ?_⟩
      refine ⟨_, rfl, a, _, _, _, rfl, rfl, SqT.of ha1, rfl, rfl, _, rfl, ifT (by decide +kernel) ?_⟩
      refine ⟨_, rfl, _, rfl, a, _, _, _, rfl, rfl, SqT.of ha1, rfl, _, rfl, a, _, _, _, rfl, rfl, SqT.of ha1, rfl, small50 (by simp), fun u hu => ?_⟩
      have e2 := same_new (o := .tup [.str "left", .str op, y]) hu
      have L2 := L1.same e2
      refine ⟨_, rfl, a, _, _, _, rfl, rfl, SqT.of (e2 _ _ ha1), rfl, ?_⟩
      refine ⟨A, S1, .ref u, x, rfl, L2, by rw [pi1]; omega, fun H3 m3 L3 => ?_⟩
      exact fin _ _ _ _ _ (opened_res Pr ((Mv.same e2).trans m3) L3 ⟨u, _, rfl, (L2.tupK m3) _ _ upd_same, .left op y (hy.keep (L1.tupK ((Mv.same e2).trans m3)))⟩) (.inl (hx.keep (L1.tupK ((Mv.same e2).trans m3))))
    | choose x pa as hx hp hl hal =>
      refine ⟨_, rfl, a, _, _, _, rfl, rfl, SqT.of ha1, rfl, rfl, _, rfl, ifF (by decide +kernel) ?_⟩
      refine ⟨_, rfl, a, _, _, _, rfl, rfl, SqT.of ha1, rfl, rfl, _, rfl, ifF (by decide +kernel) ?_⟩
      refine ⟨_, rfl, a, _, _, _, rfl, rfl, SqT.of ha1, rfl, rfl, _, rfl, ifT (by decide +kernel) ?_⟩
      refine ⟨_, rfl, _, rfl, a, _, _, _, rfl, rfl, SqT.of ha1, rfl, small50 (by simp), fun u hu => ?_⟩
      have e2 := same_new (o := .tup [.str "choose", .ref pa]) hu
      have L2 := L1.same e2
      refine ⟨_, rfl, a, _, _, _, rfl, rfl, SqT.of (e2 _ _ ha1), rfl, ?_⟩
      refine ⟨A, S1, .ref u, x, rfl, L2, by rw [pi1]; omega, fun H3 m3 L3 => ?_⟩
      exact fin _ _ _ _ _ (opened_res Pr ((Mv.same e2).trans m3) L3 ⟨u, _, rfl, (L2.tupK m3) _ _ upd_same, .choose pa as (Alts.mono (fun _ z =>z) (L1.tupK ((Mv.same e2).trans m3)) ⟨hp,hl,hal⟩)⟩) (.inl (hx.keep (L1.tupK ((Mv.same e2).trans m3))))
    | first x y hx hy =>
      refine ⟨_, rfl, a, _, _, _, rfl, rfl, SqT.of ha1, rfl, rfl, _, rfl, ifF (by decide +kernel) ?_⟩
      refine ⟨_, rfl, a, _, _, _, rfl, rfl, SqT.of ha1, rfl, rfl, _, rfl, ifF (by decide +kernel) ?_⟩
      refine ⟨_, rfl, a, _, _, _, rfl, rfl, SqT.of ha1, rfl, rfl, _, rfl, ifF (by decide +kernel) ?_⟩
      refine ⟨_, rfl, a, _, _, _, rfl, rfl, SqT.of ha1, rfl, rfl, _, rfl, ifT (by decide +kernel) ?_⟩
      refine ⟨_, rfl, A.m, _, _, _, _, rfl, L1.ob, T.c_Machine, T.n_Machine_firsts, fl_firsts, _, _, rfl, rfl, _, rfl, A.m, _, _, _, rfl, L1.ob, T.c_Machine, T.n_Machine_firsts, fl_len, ?_⟩
      rw [pf_firsts]
      have L0 := L1
      have Lz := L1.fld { S1 with firsts := S1.firsts + 1 }
      have Cz := C1.keep (fun _ z => z) Lz mvm
      have mz := mvm (A := A) (H := H1) (o := .ins (He.ga K "Machine") A.dx (flds A { S1 with firsts := S1.firsts + 1 }))
      have kz := L1.tupK mz
      have Prz : Pre K A D M _ { S1 with firsts := S1.firsts + 1 } t pl := ⟨Cz, f1, Pr.time, Pr.la, Pr.lg, Pr.th, Pr.pi⟩
      have ha2 := kz _ _ ha1
      refine ⟨_, rfl, _, rfl, a, _, _, _, rfl, rfl, SqT.of ha2, rfl, small50 (by simp), fun u hu => ?_⟩
      have e2 := same_new (o := .tup [.str "then", y]) hu
      have L2 := Lz.same e2
      refine ⟨_, rfl, a, _, _, _, rfl, rfl, SqT.of (e2 _ _ ha2), rfl, ?_⟩
      refine ⟨A, _, .ref u, x, rfl, L2, by show S1.pile.length ≤ _; rw [pi1]; omega, fun H3 m3 L3 => ?_⟩
      have mm := (Mv.same (A := A) e2).trans m3
      have R := opened_res Prz mm L3 ⟨u, _, rfl, (L2.tupK m3) _ _ upd_same, .then_ y ((hy.keep kz).keep (Lz.tupK mm))⟩
      exact fin _ _ _ _ _ ⟨R.core, R.full, R.time, R.mono, mz.trans mm, ⟨R.gr.rest, R.gr.words, R.gr.steps, R.gr.ended, R.gr.la, R.gr.lg, R.gr.th, R.gr.pi⟩⟩ (.inl ((hx.keep kz).keep (Lz.tupK mm)))
    | let_ p prs x hp hl hprs hx =>
      refine ⟨_, rfl, a, _, _, _, rfl, rfl, SqT.of ha1, rfl, rfl, _, rfl, ifF (by decide +kernel) ?_⟩
      refine ⟨_, rfl, a, _, _, _, rfl, rfl, SqT.of ha1, rfl, rfl, _, rfl, ifF (by decide +kernel) ?_⟩
      refine ⟨_, rfl, a, _, _, _, rfl, rfl, SqT.of ha1, rfl, rfl, _, rfl, ifF (by decide +kernel) ?_⟩
      refine ⟨_, rfl, a, _, _, _, rfl, rfl, SqT.of ha1, rfl, rfl, _, rfl, ifF (by decide +kernel) ?_⟩
      refine ⟨_, rfl, a, _, _, _, rfl, rfl, SqT.of ha1, rfl, rfl, _, rfl, ifT (by decide +kernel) ?_⟩
      exact ⟨_, rfl, A, M, S1, t, pl, a, p, prs, x, rfl, Pr, hda, ha1, hp, hl, hprs, hx, fun M' H' S' t' R hh => fin M' H' S' t' pl R hh⟩
    | shape c p ps hp hl hps hc =>
      refine ⟨_, rfl, a, _, _, _, rfl, rfl, SqT.of ha1, rfl, rfl, _, rfl, ifF (by decide +kernel) ?_⟩
      refine ⟨_, rfl, a, _, _, _, rfl, rfl, SqT.of ha1, rfl, rfl, _, rfl, ifF (by decide +kernel) ?_⟩
      refine ⟨_, rfl, a, _, _, _, rfl, rfl, SqT.of ha1, rfl, rfl, _, rfl, ifF (by decide +kernel) ?_⟩
      refine ⟨_, rfl, a, _, _, _, rfl, rfl, SqT.of ha1, rfl, rfl, _, rfl, ifF (by decide +kernel) ?_⟩
      refine ⟨_, rfl, a, _, _, _, rfl, rfl, SqT.of ha1, rfl, rfl, _, rfl, ifF (by decide +kernel) ?_⟩
      refine ⟨_, rfl, a, _, _, _, rfl, rfl, SqT.of ha1, rfl, rfl, _, rfl, ifT (by decide +kernel) ?_⟩
      exact ⟨_, rfl, A, M, S1, t, pl, a, p, ps, c, rfl, Pr, hda, ha1, hp, hl, hps, hc, fun M' H' S' t' R hh => fin M' H' S' t' pl R hh⟩
    | at_ k hk =>
      refine ⟨_, rfl, a, _, _, _, rfl, rfl, SqT.of ha1, rfl, rfl, _, rfl, ifF (by decide +kernel) ?_⟩
      refine ⟨_, rfl, a, _, _, _, rfl, rfl, SqT.of ha1, rfl, rfl, _, rfl, ifF (by decide +kernel) ?_⟩
      refine ⟨_, rfl, a, _, _, _, rfl, rfl, SqT.of ha1, rfl, rfl, _, rfl, ifF (by decide +kernel) ?_⟩
      refine ⟨_, rfl, a, _, _, _, rfl, rfl, SqT.of ha1, rfl, rfl, _, rfl, ifF (by decide +kernel) ?_⟩
      refine ⟨_, rfl, a, _, _, _, rfl, rfl, SqT.of ha1, rfl, rfl, _, rfl, ifF (by decide +kernel) ?_⟩
      refine ⟨_, rfl, a, _, _, _, rfl, rfl, SqT.of ha1, rfl, rfl, _, rfl, ifF (by decide +kernel) ?_⟩
      refine ⟨_, rfl, a, _, _, _, rfl, rfl, SqT.of ha1, rfl, _, _, rfl, .inr (T.x.vals _), rfl, rfl, _, rfl, ifF (by decide +kernel) ?_⟩
      refine ⟨_, rfl, A.m, _, _, rfl, L1.ob, fl_entered, _, rfl, ?_⟩
      exact ⟨A, M, S1, t, pl, a, k, rfl, Pr, by have := s.time; omega, ha1, hk, fun M' H' S' t' pl' R hh => fin M' H' S' t' pl' R hh, hE⟩
end
end W83

namespace W83
open PySem PySem.Spec PyProof.Rows L2
abbrev N_run_on : List Str := ["runner", "most", "word"]
abbrev P_run_on : List Str := ["runner", "most"]
theorem sc_run_on : FnScope N_run_on P_run_on d_run_on.scope := ⟨rfl, rfl, rfl, by decide +kernel, rfl, by decide +kernel, by decide +kernel⟩

def Fin3 (H : Hp) (S : S83) (word : Str) : Prop := (word = "told" ∧ S.pile = []) ∨ (word = "stop" ∧ ∃ a, ∃ x : Str, S.hand = .ref a ∧ H a = some (.tup [.str "stop", .str x])) ∨ word = "stuck"
def spRunOn (K : PySem.W.Frag) (D : Nat) : Sp := fun vs H Q E => ∃ (A : Ad) (M : Nat → Prop) (S : S83) (t : Nat) (pl : List (Option Nat)) (b : Bool) (hv : Nat) (most : Int), vs = [.ref A.m, .int most] ∧ StP K A D M H S t pl b hv ∧ S.ended = "" ∧ S.steps ≤ 1000 ∧ most ≤ 1000 ∧
  (∀ (word : Str) (M' : Nat → Prop) (H' : Hp) (S' : S83) (t' : Nat) (pl' : List (Option Nat)) (b' : Bool) (hv' : Nat), StP K A D M' H' S' t' pl' b' hv' → S'.steps ≤ 1000 → Fin3 H' S' word ∨ word = "spent" → Q (.str word) H') ∧ EK K A 30000 E
section
variable {P : Program} {w : World} {K : PySem.W.Frag} {mg : Str → Option Value} {base : Heap} {A : Ad} {D : Nat} {M M' : Nat → Prop} {H H' H'' H1 : Hp} {S S' S1 : S83} {t t' : Nat} {pl pl' : List (Option Nat)} {b : Bool} {hv n : Nat}
theorem StP.endd (s : StP K A D M H S t pl b hv) (x : Str) : StP K A D M (upd H A.m (.ins (He.ga K "Machine") A.dx (flds A { S with ended := x }))) { S with ended := x } t pl b hv := by
  have L := s.core.lay
  have L' := L.fld { S with ended := x }
  have m := mvm (A := A) (H := H) (o := .ins (He.ga K "Machine") A.dx (flds A { S with ended := x }))
  have k := L.tupK m
  refine ⟨s.core.keep (fun _ z => z) L' m, s.full, s.time, ?_, ?_, s.bl, s.bg, s.bt, s.bw, s.ws⟩
  · rcases s.hand with h | ⟨h, e⟩ | ⟨h, e⟩
    · exact .inl h
    · exact .inr (.inl ⟨h.mono (fun _ z => z) k, e⟩)
    · exact .inr (.inr ⟨h.mono (fun _ z => z) k, e⟩)
  · rcases s.rest with ⟨h1, h2, h3, v, h4, a, m, d, h5, h6, h7⟩ | ⟨h1, h2⟩
    · exact .inl ⟨h1, h2, h3, v, h4, a, m, d, h5, k _ _ h6, h7.keep k⟩
    · exact .inr ⟨h1, fun v hv => (h2 v hv).mono (fun _ z => z) k⟩
theorem ok_run_on (T : Top K mg) (D : Nat) : Keeps P w K mg base (L2N.CX P w) (2 * D + 7) d_run_on P_run_on (spRunOn K D) := by
  obtain ⟨fd, F, bd⟩ := T.f_run_on
  obtain ⟨_, G_settled⟩ := ok_settled (P := P) (w := w) (base := base) T
  obtain ⟨_, G_take_step⟩ := ok_take_step (P := P) (w := w) (base := base) T D
  refine keepsX F bd sc_run_on (fun vs H Q E h => ?_) (fun cdv AA outer s H vs Q E hr h => ?_)
  · obtain ⟨A, M, S, t, pl, b, hv, most, rfl, _⟩ := h
    rfl
  obtain ⟨A, M0, S0, t0, pl0, b0, hv0, most, rfl, s0, e0, hst0, hm, q, hE⟩ := h
  refine ⟨_, (pss_cons (ps_while (passes_of rfl) (pt_cmpR op_eq (pe_fld (pv 0) rfl) pe_str (nomark _))
    (pss_cons (ps_set (i := 2) sc_run_on.nd rfl (Or.inl rfl) (pe_call G_settled.ok (hr.mono (by omega)) rfl T.g_settled G_settled.kp G_settled.bd .nil pass0 (pa_cons (pv 0) pa_nil)))
    (pss_cons (ps_if (PW.pt (pw_and (pt_cmpR op_eq (pv 2) pe_str (nomark _)) (pw_and1 (pt_cmpR op_ge (pe_fld (pv 0) rfl) (pv 1) (nomark _)))))
    (pss_one (ps_ret pe_str))
    pss_nil)
    (pss_one (ps_if (pt_cmpR op_eq (pv 2) pe_str (nomark _))
    (pss_one (ps_expr (pe_call G_take_step.ok (hr.mono (by omega)) rfl T.g_take_step G_take_step.kp G_take_step.bd .nil (L2N.passes_call (L2N.takes_of rfl rfl rfl rfl) (fun _ _ _ _ h => h)) (pa_cons (pv 0) pa_nil))))
    (pss_one (ps_fld (pv 0) (pv 2) rfl)))))))
    (pss_one (ps_ret (pe_fld (pv 0) rfl)))), ?_⟩
  refine ⟨fun m σ G => ∃ v2, σ = [some (.ref A.m), some (.int most), v2] ∧ ∃ M S t pl b hv, StP K A D M G S t pl b hv ∧ S.steps ≤ 1000 ∧ ((S.ended = "" ∧ m = 1 + (1001 - S.steps)) ∨ (m = 0 ∧ Fin3 G S S.ended)), ⟨_, _, rfl, M0, S0, t0, pl0, b0, hv0, s0, hst0, .inl ⟨e0, rfl⟩⟩, ?_⟩
  rintro m σ G ⟨v2, rfl, M, S, t, pl, b, hv, s, hst, hor⟩
  have L := s.core.lay
  refine ⟨_, rfl, A.m, _, _, _, _, rfl, L.ob, T.c_Machine, T.n_Machine_ended, fl_ended, rfl, _, rfl, ?_⟩
  rcases hor with ⟨e1, rfl⟩ | ⟨rfl, hf⟩
  · rw [e1]
    refine ifT (by decide +kernel) ?_
    refine ⟨fun σ G => ∃ m', m' < 1 + (1001 - S.steps) ∧ ∃ v2, σ = [some (.ref A.m), some (.int most), v2] ∧ ∃ M S t pl b hv, StP K A D M G S t pl b hv ∧ S.steps ≤ 1000 ∧ ((S.ended = "" ∧ m' = 1 + (1001 - S.steps)) ∨ (m' = 0 ∧ Fin3 G S S.ended)), fun σ' H' h => h, ?_⟩
    refine ⟨_, rfl, A, D, M, S, t, pl, b, hv, rfl, s, hst, fun word H' S' t' pl' b' hv' s' es ee hw => ?_⟩
    have L' := s'.core.lay
    have other : Fin3 H' S' word → (decide (V.str word = V.str "") = false) → ∃ m', m' < 1 + (1001 - S.steps) ∧ ∃ v2, [some (V.ref A.m), some (V.int most), some (V.str word)] = [some (.ref A.m), some (.int most), v2] ∧ ∃ M S t pl b hv, StP K A D M (upd H' A.m (.ins (He.ga K "Machine") A.dx (flds A { S' with ended := word }))) S t pl b hv ∧ S.steps ≤ 1000 ∧ ((S.ended = "" ∧ m' = 1 + (1001 - S.steps)) ∨ (m' = 0 ∧ Fin3 (upd H' A.m (.ins (He.ga K "Machine") A.dx (flds A { S' with ended := word }))) S S.ended)) := fun hf _ => by
      refine ⟨0, by omega, _, rfl, M, _, t', pl', b', hv', s'.endd word, by show S'.steps ≤ 1000; omega, .inr ⟨rfl, ?_⟩⟩
      rcases hf with h | ⟨h, a, x, h1, h2⟩ | h
      · exact .inl h
      · exact .inr (.inl ⟨h, a, x, h1, (L'.tupK mvm) _ _ h2⟩)
      · exact .inr (.inr h)
    rcases hw with ⟨rfl, h⟩ | ⟨rfl, h⟩ | rfl | ⟨rfl, go⟩
    ·
      refine ⟨_, rfl, rfl, _, rfl, ifF (by decide +kernel) ?_⟩
      refine ifF rfl ?_
      refine ⟨_, rfl, rfl, _, rfl, ifF (by decide +kernel) ?_⟩
      refine ⟨_, rfl, _, rfl, A.m, _, _, _, rfl, L'.ob, T.c_Machine, T.n_Machine_ended, fl_len, ?_⟩
      rw [pf_ended]
      exact other (.inl ⟨rfl, h⟩) (by decide +kernel)
    ·
      refine ⟨_, rfl, rfl, _, rfl, ifF (by decide +kernel) ?_⟩
      refine ifF rfl ?_
      refine ⟨_, rfl, rfl, _, rfl, ifF (by decide +kernel) ?_⟩
      refine ⟨_, rfl, _, rfl, A.m, _, _, _, rfl, L'.ob, T.c_Machine, T.n_Machine_ended, fl_len, ?_⟩
      rw [pf_ended]
      exact other (.inr (.inl ⟨rfl, h⟩)) (by decide +kernel)
    ·
      refine ⟨_, rfl, rfl, _, rfl, ifF (by decide +kernel) ?_⟩
      refine ifF rfl ?_
      refine ⟨_, rfl, rfl, _, rfl, ifF (by decide +kernel) ?_⟩
      refine ⟨_, rfl, _, rfl, A.m, _, _, _, rfl, L'.ob, T.c_Machine, T.n_Machine_ended, fl_len, ?_⟩
      rw [pf_ended]
      exact other (.inr (.inr rfl)) (by decide +kernel)
    · refine ⟨_, rfl, rfl, _, rfl, ifT (by decide +kernel) ?_⟩
      refine ⟨_, rfl, A.m, _, _, _, _, rfl, L'.ob, T.c_Machine, T.n_Machine_steps, fl_steps, _, rfl, _, _, rfl, rfl, _, rfl, ifB (fun _ => ?_) (fun hlt => ?_)⟩
      · exact q "spent" M H' S' t' pl' b' hv' s' (by omega) (.inr rfl)
      · have hlt : ((S'.steps : Nat) : Int) < most := by
          have := of_decide_eq_false hlt
          omega
        refine ⟨_, rfl, rfl, _, rfl, ifT (by decide +kernel) ?_⟩
        refine ⟨_, rfl, A, M, S', t', pl', b', hv', rfl, s', go, by omega, fun M2 H2 S2 t2 pl2 hv2 s2 es2 ee2 => ?_, hE⟩
        refine ⟨_, ?_, _, rfl, M2, S2, t2, pl2, false, hv2, s2, by omega, .inl ⟨ee2.trans (ee.trans e1), rfl⟩⟩
        omega
  · have hne : ∃ x, S.ended = x ∧ (decide (V.str x = V.str "") = false) := by
      rcases hf with ⟨h, _⟩ | ⟨h, _⟩ | h <;> exact ⟨_, h, by decide +kernel⟩
    obtain ⟨x, hx, hx2⟩ := hne
    rw [hx]
    refine ifF hx2 ?_
    refine ⟨_, rfl, A.m, _, _, _, _, rfl, L.ob, T.c_Machine, T.n_Machine_ended, fl_ended, ?_⟩
    exact q _ M G S t pl b hv s hst (.inl hf)
end
end W83

namespace W83
open PySem PySem.Spec PyProof.Rows L2
abbrev N_outcome : List Str := ["runner", "word", "what"]
abbrev P_outcome : List Str := ["runner", "word"]
theorem sc_outcome : FnScope N_outcome P_outcome d_outcome.scope := ⟨rfl, rfl, rfl, by decide +kernel, rfl, by decide +kernel, by decide +kernel⟩

def spOutcome (K : PySem.W.Frag) : Sp := fun vs H Q _ => ∃ (A : Ad) (S : S83) (word : Str), vs = [.ref A.m, .str word] ∧ Lay K A H S ∧ (word = "told" → S.words.length ≤ 30000 ∧ ∀ x ∈ S.words, x.length ≤ 21) ∧ S.log.length ≤ 50000 ∧
  (word = "stop" → ∃ a, ∃ x : Str, S.hand = .ref a ∧ H a = some (.tup [.str "stop", .str x])) ∧
  ∀ (r L c : Addr) (wv : V) (H' : Hp), Same H H' → H' r = some (.tup [.str word, wv, .ref c, .ref L]) → H' L = some (.lst S.logv) → (word = "ring" → wv = S.what) → Q (.ref r) H'
theorem sum_le (c : Nat) : ∀ xs : List Str, (∀ x ∈ xs, x.length ≤ c) → (xs.map (·.length)).sum ≤ c * xs.length
  | [], _ => by simp
  | x :: xs, h => by
    have ih := sum_le c xs fun y hy => h y (List.mem_cons_of_mem _ hy)
    have := h x List.mem_cons_self
    simp only [List.map_cons, List.sum_cons, List.length_cons]
    rw [Nat.mul_succ]
    omega
section
variable {P : Program} {w : World} {K : PySem.W.Frag} {mg : Str → Option Value} {base : Heap}
theorem ok_outcome (T : Top K mg) : Keeps P w K mg base CX0 1 d_outcome P_outcome (spOutcome K) := by
  obtain ⟨fd, F, bd⟩ := T.f_outcome
  refine keeps0 F bd sc_outcome (fun vs H Q E h => ?_) (fun cdv AA outer s H vs Q E hr h => ?_)
  · obtain ⟨A, S, word, rfl, _⟩ := h
    rfl
  obtain ⟨A, S, word, rfl, L, hw, hlog, hst, q⟩ := h
  refine ⟨_, (pss_cons (ps_set (i := 2) sc_outcome.nd rfl (Or.inl rfl) pe_str)
    (pss_cons (ps_if (pt_cmpR op_eq (pv 1) pe_str (nomark _))
    (pss_one (ps_set (i := 2) sc_outcome.nd rfl (Or.inl rfl) (pe_join pe_str (pe_fld (pv 0) rfl))))
    (pss_one (ps_if (pt_cmpR op_eq (pv 1) pe_str (nomark _))
    (pss_one (ps_set (i := 2) sc_outcome.nd rfl (Or.inl rfl) (pe_ix ix_tup (pe_fld (pv 0) rfl) pe_int (fun _ _ => rfl))))
    (pss_one (ps_if (pt_cmpR op_eq (pv 1) pe_str (nomark _))
    (pss_one (ps_set (i := 2) sc_outcome.nd rfl (Or.inl rfl) (pe_fld (pv 0) rfl)))
    pss_nil)))))
    (pss_one (ps_ret (pe_tup (pa_cons (pv 1) (pa_cons (pv 2) (pa_cons (pe_tup (pa_cons (pe_fld (pv 0) rfl) (pa_cons (pe_fld (pv 0) rfl) (pa_cons (pe_fld (pv 0) rfl) pa_nil)))) (pa_cons (pe_callTy call_list_of (by rfl) T.z_list (by decide +kernel) (pa_cons (pe_fld (pv 0) rfl) pa_nil)) pa_nil))))))))), ?_⟩
  have sum : word = "told" → (S.words.map (·.length)).sum + S.words.length * ("" : Str).length ≤ 16777216 := fun h => by
    obtain ⟨hw, hws⟩ := hw h
    have := sum_le 21 S.words hws
    have e : ("" : Str).length = 0 := by decide +kernel
    rw [e]
    omega
  have tail : ∀ (wv : V), (word = "ring" → wv = S.what) → ∀ (r c l : Addr), H c = none → (upd H c (.tup [.int ((S.steps : Nat) : Int), .int S.cells, .int S.firsts])) l = none → (upd (upd H c (.tup [.int ((S.steps : Nat) : Int), .int S.cells, .int S.firsts])) l (.lst S.logv)) r = none →
      Q (.ref r) (upd (upd (upd H c (.tup [.int ((S.steps : Nat) : Int), .int S.cells, .int S.firsts])) l (.lst S.logv)) r (.tup [.str word, wv, .ref c, .ref l])) := fun wv hwv r c l hc hl hr' => by
    have e1 := same_new (o := .tup [.int ((S.steps : Nat) : Int), .int S.cells, .int S.firsts]) hc
    have e2 := same_new (o := .lst S.logv) hl
    have e3 := same_new (o := .tup [.str word, wv, .ref c, .ref l]) hr'
    exact q r l c wv _ (e1.trans (e2.trans e3)) upd_same (e3 _ _ upd_same) hwv
  by_cases h1 : word = "told"
  · subst h1
    refine ⟨_, rfl, rfl, _, rfl, ifT (by decide +kernel) ?_⟩
    refine ⟨⟨_, rfl⟩, _, rfl, A.m, _, _, _, _, rfl, L.ob, T.c_Machine, T.n_Machine_words, fl_words, _, A.wa, S.words, rfl, rfl, .inl (SqL.of L.wo), sum rfl, ?_⟩
    refine ⟨_, rfl, _, rfl, ⟨_, rfl, A.m, _, _, _, _, rfl, L.ob, T.c_Machine, T.n_Machine_steps, fl_steps, _, rfl, A.m, _, _, _, _, rfl, L.ob, T.c_Machine, T.n_Machine_cells, fl_cells, _, rfl, A.m, _, _, _, _, rfl, L.ob, T.c_Machine, T.n_Machine_firsts, fl_firsts, small50 (by simp), fun c hc => ?_⟩⟩
    have L1 := L.same (same_new (o := .tup [.int ((S.steps : Nat) : Int), .int S.cells, .int S.firsts]) hc)
    refine ⟨_, rfl, A.m, _, _, _, _, rfl, L1.ob, T.c_Machine, T.n_Machine_log, fl_log, A.ga, _, rfl, .inl (SqL.of L1.lg), fun l hl => ?_⟩
    refine ⟨small50 (by simp), fun r hr' => ?_⟩
    exact tail _ (fun z =>absurd z (by decide +kernel)) r c l hc hl hr'
  · refine ⟨_, rfl, rfl, _, rfl, ifF (by simpa using h1) ?_⟩
    by_cases h2 : word = "stop"
    · obtain ⟨a, x, ha, hx⟩ := hst h2
      subst h2
      refine ⟨_, rfl, rfl, _, rfl, ifT (by decide +kernel) ?_⟩
      refine ⟨_, rfl, A.m, _, _, _, _, rfl, L.ob, T.c_Machine, T.n_Machine_hand, fl_hand, ?_⟩
      rw [ha]
      refine ⟨a, _, _, _, rfl, rfl, SqT.of hx, rfl, ?_⟩
      refine ⟨_, rfl, _, rfl, ⟨_, rfl, A.m, _, _, _, _, rfl, L.ob, T.c_Machine, T.n_Machine_steps, fl_steps, _, rfl, A.m, _, _, _, _, rfl, L.ob, T.c_Machine, T.n_Machine_cells, fl_cells, _, rfl, A.m, _, _, _, _, rfl, L.ob, T.c_Machine, T.n_Machine_firsts, fl_firsts, small50 (by simp), fun c hc => ?_⟩⟩
      have L1 := L.same (same_new (o := .tup [.int ((S.steps : Nat) : Int), .int S.cells, .int S.firsts]) hc)
      refine ⟨_, rfl, A.m, _, _, _, _, rfl, L1.ob, T.c_Machine, T.n_Machine_log, fl_log, A.ga, _, rfl, .inl (SqL.of L1.lg), fun l hl => ?_⟩
      refine ⟨small50 (by simp), fun r hr' => ?_⟩
      exact tail _ (fun z =>absurd z (by decide +kernel)) r c l hc hl hr'
    · refine ⟨_, rfl, rfl, _, rfl, ifF (by simpa using h2) ?_⟩
      by_cases h3 : word = "ring"
      · subst h3
        refine ⟨_, rfl, rfl, _, rfl, ifT (by decide +kernel) ?_⟩
        refine ⟨_, rfl, A.m, _, _, _, _, rfl, L.ob, T.c_Machine, T.n_Machine_what, fl_what, ?_⟩
        refine ⟨_, rfl, _, rfl, ⟨_, rfl, A.m, _, _, _, _, rfl, L.ob, T.c_Machine, T.n_Machine_steps, fl_steps, _, rfl, A.m, _, _, _, _, rfl, L.ob, T.c_Machine, T.n_Machine_cells, fl_cells, _, rfl, A.m, _, _, _, _, rfl, L.ob, T.c_Machine, T.n_Machine_firsts, fl_firsts, small50 (by simp), fun c hc => ?_⟩⟩
        have L1 := L.same (same_new (o := .tup [.int ((S.steps : Nat) : Int), .int S.cells, .int S.firsts]) hc)
        refine ⟨_, rfl, A.m, _, _, _, _, rfl, L1.ob, T.c_Machine, T.n_Machine_log, fl_log, A.ga, _, rfl, .inl (SqL.of L1.lg), fun l hl => ?_⟩
        refine ⟨small50 (by simp), fun r hr' => ?_⟩
        exact tail _ (fun _ =>rfl) r c l hc hl hr'
      · refine ⟨_, rfl, rfl, _, rfl, ifF (by simpa using h3) ?_⟩
        refine ⟨_, rfl, _, rfl, ⟨_, rfl, A.m, _, _, _, _, rfl, L.ob, T.c_Machine, T.n_Machine_steps, fl_steps, _, rfl, A.m, _, _, _, _, rfl, L.ob, T.c_Machine, T.n_Machine_cells, fl_cells, _, rfl, A.m, _, _, _, _, rfl, L.ob, T.c_Machine, T.n_Machine_firsts, fl_firsts, small50 (by simp), fun c hc => ?_⟩⟩
        have L1 := L.same (same_new (o := .tup [.int ((S.steps : Nat) : Int), .int S.cells, .int S.firsts]) hc)
        refine ⟨_, rfl, A.m, _, _, _, _, rfl, L1.ob, T.c_Machine, T.n_Machine_log, fl_log, A.ga, _, rfl, .inl (SqL.of L1.lg), fun l hl => ?_⟩
        refine ⟨small50 (by simp), fun r hr' => ?_⟩
        exact tail _ (fun z =>absurd z h3) r c l hc hl hr'
theorem ok_outcomeH (T : Top K mg) : ∃ fd, L2H.FnH P w K mg base CX0 1 (He.fAd K d_outcome.at_) fd P_outcome (spOutcome K) ∧ Binds K fd P_outcome [] ∧ PySem.W.keepIn K (.ref (He.fAd K d_outcome.at_)) = true := by
  obtain ⟨fd, F, bd⟩ := T.f_outcome
  obtain ⟨oc, od, dV, kV, doc, pm, an, cdv, ct, osl, e1, e2, e3, _, _⟩ := F.ex
  subst e1
  refine ⟨_, L2H.fn_ofH e2 e3 sc_outcome (fun vs H Q E h => ?_) (fun AA outer s H vs Q E p hot hr h => ?_), bd, F.kp⟩
  · obtain ⟨A, S, word, rfl, _⟩ := h
    rfl
  obtain ⟨A, S, word, rfl, L, hw, hlog, hst, q⟩ := h
  refine ⟨_, (pss_cons (ps_set (i := 2) sc_outcome.nd rfl (Or.inl rfl) pe_str)
    (pss_cons (ps_if (pt_cmpR op_eq (pv 1) pe_str (nomark _))
    (pss_one (ps_set (i := 2) sc_outcome.nd rfl (Or.inl rfl) (pe_join pe_str (pe_fld (pv 0) rfl))))
    (pss_one (ps_if (pt_cmpR op_eq (pv 1) pe_str (nomark _))
    (pss_one (ps_set (i := 2) sc_outcome.nd rfl (Or.inl rfl) (pe_ix ix_tup (pe_fld (pv 0) rfl) pe_int (fun _ _ => rfl))))
    (pss_one (ps_if (pt_cmpR op_eq (pv 1) pe_str (nomark _))
    (pss_one (ps_set (i := 2) sc_outcome.nd rfl (Or.inl rfl) (pe_fld (pv 0) rfl)))
    pss_nil)))))
    (pss_one (ps_ret (pe_tup (pa_cons (pv 1) (pa_cons (pv 2) (pa_cons (pe_tup (pa_cons (pe_fld (pv 0) rfl) (pa_cons (pe_fld (pv 0) rfl) (pa_cons (pe_fld (pv 0) rfl) pa_nil)))) (pa_cons (pe_callTy call_list_of (by rfl) T.z_list (by decide +kernel) (pa_cons (pe_fld (pv 0) rfl) pa_nil)) pa_nil))))))))), ?_⟩
  have sum : word = "told" → (S.words.map (·.length)).sum + S.words.length * ("" : Str).length ≤ 16777216 := fun h => by
    obtain ⟨hw, hws⟩ := hw h
    have := sum_le 21 S.words hws
    have e : ("" : Str).length = 0 := by decide +kernel
    rw [e]
    omega
  have tail : ∀ (wv : V), (word = "ring" → wv = S.what) → ∀ (r c l : Addr), H c = none → (upd H c (.tup [.int ((S.steps : Nat) : Int), .int S.cells, .int S.firsts])) l = none → (upd (upd H c (.tup [.int ((S.steps : Nat) : Int), .int S.cells, .int S.firsts])) l (.lst S.logv)) r = none →
      Q (.ref r) (upd (upd (upd H c (.tup [.int ((S.steps : Nat) : Int), .int S.cells, .int S.firsts])) l (.lst S.logv)) r (.tup [.str word, wv, .ref c, .ref l])) := fun wv hwv r c l hc hl hr' => by
    have e1 := same_new (o := .tup [.int ((S.steps : Nat) : Int), .int S.cells, .int S.firsts]) hc
    have e2 := same_new (o := .lst S.logv) hl
    have e3 := same_new (o := .tup [.str word, wv, .ref c, .ref l]) hr'
    exact q r l c wv _ (e1.trans (e2.trans e3)) upd_same (e3 _ _ upd_same) hwv
  by_cases h1 : word = "told"
  · subst h1
    refine ⟨_, rfl, rfl, _, rfl, ifT (by decide +kernel) ?_⟩
    refine ⟨⟨_, rfl⟩, _, rfl, A.m, _, _, _, _, rfl, L.ob, T.c_Machine, T.n_Machine_words, fl_words, _, A.wa, S.words, rfl, rfl, .inl (SqL.of L.wo), sum rfl, ?_⟩
    refine ⟨_, rfl, _, rfl, ⟨_, rfl, A.m, _, _, _, _, rfl, L.ob, T.c_Machine, T.n_Machine_steps, fl_steps, _, rfl, A.m, _, _, _, _, rfl, L.ob, T.c_Machine, T.n_Machine_cells, fl_cells, _, rfl, A.m, _, _, _, _, rfl, L.ob, T.c_Machine, T.n_Machine_firsts, fl_firsts, small50 (by simp), fun c hc => ?_⟩⟩
    have L1 := L.same (same_new (o := .tup [.int ((S.steps : Nat) : Int), .int S.cells, .int S.firsts]) hc)
    refine ⟨_, rfl, A.m, _, _, _, _, rfl, L1.ob, T.c_Machine, T.n_Machine_log, fl_log, A.ga, _, rfl, .inl (SqL.of L1.lg), fun l hl => ?_⟩
    refine ⟨small50 (by simp), fun r hr' => ?_⟩
    exact tail _ (fun z =>absurd z (by decide +kernel)) r c l hc hl hr'
  · refine ⟨_, rfl, rfl, _, rfl, ifF (by simpa using h1) ?_⟩
    by_cases h2 : word = "stop"
    · obtain ⟨a, x, ha, hx⟩ := hst h2
      subst h2
      refine ⟨_, rfl, rfl, _, rfl, ifT (by decide +kernel) ?_⟩
      refine ⟨_, rfl, A.m, _, _, _, _, rfl, L.ob, T.c_Machine, T.n_Machine_hand, fl_hand, ?_⟩
      rw [ha]
      refine ⟨a, _, _, _, rfl, rfl, SqT.of hx, rfl, ?_⟩
      refine ⟨_, rfl, _, rfl, ⟨_, rfl, A.m, _, _, _, _, rfl, L.ob, T.c_Machine, T.n_Machine_steps, fl_steps, _, rfl, A.m, _, _, _, _, rfl, L.ob, T.c_Machine, T.n_Machine_cells, fl_cells, _, rfl, A.m, _, _, _, _, rfl, L.ob, T.c_Machine, T.n_Machine_firsts, fl_firsts, small50 (by simp), fun c hc => ?_⟩⟩
      have L1 := L.same (same_new (o := .tup [.int ((S.steps : Nat) : Int), .int S.cells, .int S.firsts]) hc)
      refine ⟨_, rfl, A.m, _, _, _, _, rfl, L1.ob, T.c_Machine, T.n_Machine_log, fl_log, A.ga, _, rfl, .inl (SqL.of L1.lg), fun l hl => ?_⟩
      refine ⟨small50 (by simp), fun r hr' => ?_⟩
      exact tail _ (fun z =>absurd z (by decide +kernel)) r c l hc hl hr'
    · refine ⟨_, rfl, rfl, _, rfl, ifF (by simpa using h2) ?_⟩
      by_cases h3 : word = "ring"
      · subst h3
        refine ⟨_, rfl, rfl, _, rfl, ifT (by decide +kernel) ?_⟩
        refine ⟨_, rfl, A.m, _, _, _, _, rfl, L.ob, T.c_Machine, T.n_Machine_what, fl_what, ?_⟩
        refine ⟨_, rfl, _, rfl, ⟨_, rfl, A.m, _, _, _, _, rfl, L.ob, T.c_Machine, T.n_Machine_steps, fl_steps, _, rfl, A.m, _, _, _, _, rfl, L.ob, T.c_Machine, T.n_Machine_cells, fl_cells, _, rfl, A.m, _, _, _, _, rfl, L.ob, T.c_Machine, T.n_Machine_firsts, fl_firsts, small50 (by simp), fun c hc => ?_⟩⟩
        have L1 := L.same (same_new (o := .tup [.int ((S.steps : Nat) : Int), .int S.cells, .int S.firsts]) hc)
        refine ⟨_, rfl, A.m, _, _, _, _, rfl, L1.ob, T.c_Machine, T.n_Machine_log, fl_log, A.ga, _, rfl, .inl (SqL.of L1.lg), fun l hl => ?_⟩
        refine ⟨small50 (by simp), fun r hr' => ?_⟩
        exact tail _ (fun _ =>rfl) r c l hc hl hr'
      · refine ⟨_, rfl, rfl, _, rfl, ifF (by simpa using h3) ?_⟩
        refine ⟨_, rfl, _, rfl, ⟨_, rfl, A.m, _, _, _, _, rfl, L.ob, T.c_Machine, T.n_Machine_steps, fl_steps, _, rfl, A.m, _, _, _, _, rfl, L.ob, T.c_Machine, T.n_Machine_cells, fl_cells, _, rfl, A.m, _, _, _, _, rfl, L.ob, T.c_Machine, T.n_Machine_firsts, fl_firsts, small50 (by simp), fun c hc => ?_⟩⟩
        have L1 := L.same (same_new (o := .tup [.int ((S.steps : Nat) : Int), .int S.cells, .int S.firsts]) hc)
        refine ⟨_, rfl, A.m, _, _, _, _, rfl, L1.ob, T.c_Machine, T.n_Machine_log, fl_log, A.ga, _, rfl, .inl (SqL.of L1.lg), fun l hl => ?_⟩
        refine ⟨small50 (by simp), fun r hr' => ?_⟩
        exact tail _ (fun z =>absurd z h3) r c l hc hl hr'
end
end W83

namespace W83
open PySem PySem.Spec PyProof.Rows L2
abbrev N_Runner_init : List Str := ["self", "term", "depth"]
abbrev P_Runner_init : List Str := ["self", "term", "depth"]
theorem sc_Runner_init : FnScope N_Runner_init P_Runner_init d_Runner_init.scope := ⟨rfl, rfl, rfl, by decide +kernel, rfl, by decide +kernel, by decide +kernel⟩

abbrev N_Machine_init : List Str := ["self", "term", "depth"]
abbrev P_Machine_init : List Str := ["self", "term", "depth"]
theorem sc_Machine_init : FnScope N_Machine_init P_Machine_init d_Machine_init.scope := ⟨rfl, rfl, rfl, by decide +kernel, rfl, by decide +kernel, by decide +kernel⟩

/-- an instance at x while its attributes are given; ls: what else is new -/
structure Stg (H : Hp) (x dx C : Addr) (G : Hp) (fs : List (Str × V)) (ls : List (Addr × HO)) : Prop where
  at_ : G x = some (.ins C dx fs)
  old : ∀ b o, H b = some o → b ≠ x → G b = some o
  new : ∀ q ∈ ls, G q.1 = some q.2
  nd : (ls.map (·.1)).Nodup
  ne : ∀ q ∈ ls, q.1 ≠ x
section
variable {P : Program} {w : World} {K : PySem.W.Frag} {mg : Str → Option Value} {base : Heap} {H G : Hp} {x dx C : Addr} {fs fs' : List (Str × V)} {ls : List (Addr × HO)}
theorem Stg.more (s : Stg H x dx C G fs ls) {p : Addr} {o : HO} (hp : G p = none) : Stg H x dx C (upd G p o) fs ((p, o) :: ls) := by
  have np : p ≠ x := fun z => by rw [z, s.at_] at hp; cases hp
  refine ⟨by rw [upd_ne (Ne.symm np)]; exact s.at_, fun b u e n => by rw [upd_ne (ne_of_none (s.old b u e n) hp)]; exact s.old b u e n, fun q hq => ?_, ?_, fun q hq => ?_⟩
  · rcases List.mem_cons.mp hq with rfl | hq
    · exact upd_same
    · rw [upd_ne (ne_of_none (s.new q hq) hp)]; exact s.new q hq
  · refine List.nodup_cons.mpr ⟨fun z => ?_, s.nd⟩
    obtain ⟨q, hq, e⟩ := List.mem_map.mp z
    have := s.new q hq
    rw [e, hp] at this
    cases this
  · rcases List.mem_cons.mp hq with rfl | hq
    · exact np
    · exact s.ne q hq
theorem Stg.fld (s : Stg H x dx C G fs ls) (fs' : List (Str × V)) : Stg H x dx C (upd G x (.ins C dx fs')) fs' ls :=
  ⟨upd_same, fun b u e n => by rw [upd_ne n]; exact s.old b u e n, fun q hq => by rw [upd_ne (s.ne q hq)]; exact s.new q hq, s.nd, s.ne⟩
theorem Stg.put (s : Stg H x dx C G fs ls) (f : Str) (v : V) : Stg H x dx C (upd G x (.ins C dx (putF f v fs))) (putF f v fs) ls := s.fld _
def rfs (term : V) (d : Int) (pa ra wa la ga : Addr) : List (Str × V) := [("hand", .non), ("depth", .int d), ("pile", .ref pa), ("rest", .ref ra), ("words", .ref wa), ("steps", .int 0), ("cells", .int 0), ("firsts", .int 0), ("labels", .ref la), ("log", .ref ga), ("ended", .str ""), ("what", .str "")]
def spRunnerInit (K : PySem.W.Frag) : Sp := fun vs H Q _ => ∃ (x dx : Addr) (term : V) (d : Int), vs = [.ref x, term, .int d] ∧ H x = some (.ins (He.ga K "Machine") dx []) ∧
  ∀ (pa e ra wa la ga : Addr) (H' : Hp), Stg H x dx (He.ga K "Machine") H' (rfs term d pa ra wa la ga) [(ga, .lst []), (la, .lst []), (wa, .lst []), (ra, .lst [.ref e]), (e, .tup [.str "part", term, .int d]), (pa, .lst [])] → Q .non H'
def S0 (term : V) (d : Int) (e : Addr) : S83 := ⟨.non, d, [], [.ref e], [], 0, 0, 0, [], [], [], "", .str "", []⟩
def spMachineInit (K : PySem.W.Frag) : Sp := fun vs H Q _ => ∃ (x dx : Addr) (term : V) (d : Int), vs = [.ref x, term, .int d] ∧ H x = some (.ins (He.ga K "Machine") dx []) ∧
  ∀ (A : Ad) (e : Addr) (H' : Hp), A.m = x → Lay K A H' (S0 term d e) → H' e = some (.tup [.str "part", term, .int d]) → (∀ b o, H b = some o → b ≠ x → H' b = some o) → Q .non H'
theorem ok_runner_init (T : Top K mg) : Keeps P w K mg base CX0 1 d_Runner_init P_Runner_init (spRunnerInit K) := by
  obtain ⟨fd, F, bd⟩ := T.f_Runner_init
  refine keeps0 F bd sc_Runner_init (fun vs H Q E h => ?_) (fun cdv AA outer s H vs Q E hr h => ?_)
  · obtain ⟨x, dx, term, d, rfl, _⟩ := h
    rfl
  obtain ⟨x, dx, term, d, rfl, hx, q⟩ := h
  refine ⟨_, (pss_cons (ps_fld (pv 0) pe_non rfl)
    (pss_cons (ps_fld (pv 0) (pv 2) rfl)
    (pss_cons (ps_fld (pv 0) (pe_lst pa_nil) rfl)
    (pss_cons (ps_fld (pv 0) (pe_lst (pa_cons (pe_tup (pa_cons pe_str (pa_cons (pv 1) (pa_cons (pv 2) pa_nil)))) pa_nil)) rfl)
    (pss_cons (ps_fld (pv 0) (pe_lst pa_nil) rfl)
    (pss_cons (ps_fld (pv 0) pe_int rfl)
    (pss_cons (ps_fld (pv 0) pe_int rfl)
    (pss_cons (ps_fld (pv 0) pe_int rfl)
    (pss_cons (ps_fld (pv 0) (pe_lst pa_nil) rfl)
    (pss_cons (ps_fld (pv 0) (pe_lst pa_nil) rfl)
    (pss_cons (ps_fld (pv 0) pe_str rfl)
    (pss_one (ps_fld (pv 0) pe_str rfl))))))))))))), ?_⟩
  have s0 : Stg H x dx (He.ga K "Machine") H [] [] := ⟨hx, fun b o h _ => h, (fun q hq => by cases hq), List.nodup_nil, (fun q hq => by cases hq)⟩
  refine ⟨_, rfl, x, _, _, _, rfl, s0.at_, T.c_Machine, T.n_Machine_hand, by show 0 < 1000; decide, ?_⟩
  have s0' := s0.put "hand" .non
  refine ⟨_, rfl, ?_⟩
  refine ⟨_, rfl, x, _, _, _, rfl, s0'.at_, T.c_Machine, T.n_Machine_depth, by show 1 < 1000; decide, ?_⟩
  have s0'' := s0'.put "depth" (.int d)
  refine ⟨small50 (by simp), fun pa hpa => ?_⟩
  have s1 := s0''.more (o := .lst []) hpa
  refine ⟨_, rfl, x, _, _, _, rfl, s1.at_, T.c_Machine, T.n_Machine_pile, by show 2 < 1000; decide, ?_⟩
  have s1' := s1.put "pile" (.ref pa)
  refine ⟨_, rfl, _, rfl, small50 (by simp), fun e he => ?_⟩
  have s2 := s1'.more (o := .tup [.str "part", term, .int d]) he
  refine ⟨small50 (by simp), fun ra hra => ?_⟩
  have s3 := s2.more (o := .lst [.ref e]) hra
  refine ⟨_, rfl, x, _, _, _, rfl, s3.at_, T.c_Machine, T.n_Machine_rest, by show 3 < 1000; decide, ?_⟩
  have s3' := s3.put "rest" (.ref ra)
  refine ⟨small50 (by simp), fun wa hwa => ?_⟩
  have s4 := s3'.more (o := .lst []) hwa
  refine ⟨_, rfl, x, _, _, _, rfl, s4.at_, T.c_Machine, T.n_Machine_words, by show 4 < 1000; decide, ?_⟩
  have s4' := s4.put "words" (.ref wa)
  refine ⟨_, rfl, x, _, _, _, rfl, s4'.at_, T.c_Machine, T.n_Machine_steps, by show 5 < 1000; decide, ?_⟩
  have s4'' := s4'.put "steps" (.int 0)
  refine ⟨_, rfl, x, _, _, _, rfl, s4''.at_, T.c_Machine, T.n_Machine_cells, by show 6 < 1000; decide, ?_⟩
  have s4''' := s4''.put "cells" (.int 0)
  refine ⟨_, rfl, x, _, _, _, rfl, s4'''.at_, T.c_Machine, T.n_Machine_firsts, by show 7 < 1000; decide, ?_⟩
  have s4'''' := s4'''.put "firsts" (.int 0)
  refine ⟨small50 (by simp), fun la hla => ?_⟩
  have s5 := s4''''.more (o := .lst []) hla
  refine ⟨_, rfl, x, _, _, _, rfl, s5.at_, T.c_Machine, T.n_Machine_labels, by show 8 < 1000; decide, ?_⟩
  have s5' := s5.put "labels" (.ref la)
  refine ⟨small50 (by simp), fun ga hga => ?_⟩
  have s6 := s5'.more (o := .lst []) hga
  refine ⟨_, rfl, x, _, _, _, rfl, s6.at_, T.c_Machine, T.n_Machine_log, by show 9 < 1000; decide, ?_⟩
  have s6' := s6.put "log" (.ref ga)
  refine ⟨_, rfl, x, _, _, _, rfl, s6'.at_, T.c_Machine, T.n_Machine_ended, by show 10 < 1000; decide, ?_⟩
  have s6'' := s6'.put "ended" (.str "")
  refine ⟨_, rfl, x, _, _, _, rfl, s6''.at_, T.c_Machine, T.n_Machine_what, by show 11 < 1000; decide, ?_⟩
  have s6''' := s6''.put "what" (.str "")
  exact q pa e ra wa la ga _ s6'''
theorem ok_machine_init (T : Top K mg) : Keeps P w K mg base CX0 2 d_Machine_init P_Machine_init (spMachineInit K) := by
  obtain ⟨fd, F, bd⟩ := T.f_Machine_init
  obtain ⟨_, G_Runner_init⟩ := ok_runner_init (P := P) (w := w) (base := base) T
  refine keeps0 F bd sc_Machine_init (fun vs H Q E h => ?_) (fun cdv AA outer s H vs Q E hr h => ?_)
  · obtain ⟨x, dx, term, d, rfl, _⟩ := h
    rfl
  obtain ⟨x, dx, term, d, rfl, hx, q⟩ := h
  refine ⟨_, (pss_cons (ps_expr (pe_clsfn (pe_glob (v := V.ref (He.ga K "Runner")) rfl T.g_Runner rfl) T.x.rdR T.x.inR G_Runner_init.kp G_Runner_init.ok (hr.mono (by decide)) G_Runner_init.bd .nil pass0 (pa_cons (pv 0) (pa_cons (pv 1) (pa_cons (pv 2) pa_nil)))))
    (pss_one (ps_fld (pv 0) pe_dnewK rfl))), ?_⟩
  refine ⟨rfl, _, rfl, _, rfl, _, rfl, x, dx, term, d, rfl, hx, fun pa e ra wa la ga H1 s1 => ?_⟩
  intro ta hta
  have s2 := s1.more (o := .dK []) hta
  refine ⟨_, rfl, x, _, _, _, rfl, s2.at_, T.c_Machine, T.n_Machine_things, by show 12 < 1000; decide, ?_⟩
  have s3 := s2.put "things" (.ref ta)
  have nd := s3.nd
  simp only [List.map_cons, List.map_nil, List.nodup_cons, List.mem_cons, List.not_mem_nil, or_false, not_or] at nd
  obtain ⟨a0, ⟨a1, a2, a3, a4, a5⟩, ⟨b1, b2, b3, b4⟩, ⟨c1, c2, c3⟩, ⟨d1, d2⟩, d3, _⟩ := nd
  have nw := s3.new
  refine q ⟨x, dx, pa, ra, wa, la, ga, ta⟩ e _ rfl ⟨s3.at_, ?_, ?_, ?_, ?_, ?_, ?_, ?_, ⟨rfl, fun i v r h => by simp [S0] at h⟩⟩ ?_ s3.old
  · exact nw (pa, .lst []) (by simp)
  · exact nw (ra, .lst [.ref e]) (by simp)
  · exact nw (wa, .lst []) (by simp)
  · exact nw (la, .lst []) (by simp)
  · exact nw (ga, .lst []) (by simp)
  · exact nw (ta, .dK []) (by simp)
  · simp only [List.nodup_cons, List.mem_cons, List.not_mem_nil, or_false, not_or]
    refine ⟨⟨fun z => d2 z.symm, fun z => c3 z.symm, fun z => b4 z.symm, fun z => a5 z.symm⟩, ⟨fun z => c1 z.symm, fun z => b2 z.symm, fun z => a3 z.symm⟩, ⟨fun z => b1 z.symm, fun z => a2 z.symm⟩, fun z => a1 z.symm, fun z => z, List.nodup_nil⟩
  · exact nw (e, .tup [.str "part", term, .int d]) (by simp)
end
end W83

namespace W83
open PySem PySem.Spec PyProof.Rows L2
abbrev N_Machine_go : List Str := ["self", "most", "word", "e"]
abbrev P_Machine_go : List Str := ["self", "most"]
theorem sc_Machine_go : FnScope N_Machine_go P_Machine_go d_Machine_go.scope := ⟨rfl, rfl, rfl, by decide +kernel, rfl, by decide +kernel, by decide +kernel⟩

structure Out (K : PySem.W.Frag) (H : Hp) (S : S83) (t : Nat) (word : Str) (wv : V) (L : Addr) : Prop where
  log : H L = some (.lst S.logv)
  rows : RowsAt H S.logv S.log
  good : Good S.log S.labels t
  len : S.log.length ≤ 30000
  told : word = "told" → nums (W S.log) = []
  ring : word = "ring" → ∃ q, wv = .ref q ∧ RingOut S H q
def OutK (K : PySem.W.Frag) (Q : VK) : Prop := ∀ (r L c : Addr) (word : Str) (wv : V) (H : Hp) (S : S83) (t : Nat), H r = some (.tup [.str word, wv, .ref c, .ref L]) → Out K H S t word wv L → Q (.ref r) H
def spGo (K : PySem.W.Frag) (D : Nat) : Sp := fun vs H Q _ => ∃ (A : Ad) (M : Nat → Prop) (S : S83) (t : Nat) (pl : List (Option Nat)) (b : Bool) (hv : Nat) (most : Int), vs = [.ref A.m, .int most] ∧ StP K A D M H S t pl b hv ∧ S.ended = "" ∧ S.steps ≤ 1000 ∧ most ≤ 1000 ∧ OutK K Q
def goTry : List Stmt × List Stmt × List Stmt := match d_Machine_go.body with
  | [.Try b [.ExceptHandler _ _ e _] o _ _] => (b, e, o)
  | _ => ([], [], [])
section
variable {P : Program} {w : World} {K : PySem.W.Frag} {mg : Str → Option Value} {base : Heap}
theorem Lay.outX {A : Ad} {H : Hp} {S : S83} (L : Lay K A H S) {b : Addr} {fs : List (Str × V)} (h : H b = some (.xd fs)) : b ∉ A.all := fun z => by
  rcases L.all z with ⟨ys, e⟩ | e | e <;> · rw [h] at e; cases e
theorem ok_go (T : Top K mg) (D : Nat) : Keeps P w K mg base CX0 (2 * D + 8) d_Machine_go P_Machine_go (spGo K D) := by
  obtain ⟨fd, F, bd⟩ := T.f_Machine_go
  obtain ⟨_, G_run_on⟩ := ok_run_on (P := P) (w := w) (base := base) T D
  obtain ⟨_, G_outcome⟩ := ok_outcome (P := P) (w := w) (base := base) T
  obtain ⟨_, Hok, Hbd, Hkp⟩ := ok_outcomeH (P := P) (w := w) (mg := mg) (base := base) T
  refine keeps0 F bd sc_Machine_go (fun vs H Q E h => ?_) (fun cdv AA outer sh H vs Q E hr h => ?_)
  · obtain ⟨A, M, S, t, pl, b, hv, most, rfl, _⟩ := h
    rfl
  obtain ⟨A, M, S, t, pl, b, hv, most, rfl, s, e0, hst, hm, q⟩ := h
  refine ⟨_, (pss_one (ps_tryE (X := (cxOf CX0 P w K mg base N_Machine_go d_Machine_go.qual d_Machine_go.scope (He.fAd K d_Machine_go.at_) cdv AA outer sh H E).nox) (body := goTry.1) (b₀ := goTry.2.1.head!) (suite := goTry.2.1.tail) (orelse := goTry.2.2) (tb := fun V => tAsg (tCallS (spRunOn K D) (WE V) (tCons (tVar 0) (tCons (tVar 1) tNil))) (gName 2)) (ts := fun a cls d => tSeq (sFld K (tVar 0) (tC (.str "ring")) "ended") (tSeq (sFld K (tVar 0) (tByRg (He.ga K "Ring") a cls d (tVar 3)) "what") (tRet (tCallS (spOutcome K) (fun _ => E0) (tCons (tVar 0) (tCons (tC (.str "ring")) tNil)))))) (i := 3) (c := Value.ref (He.ga K "Ring")) rfl rfl sc_Machine_go.nd rfl rfl ⟨rfl, by decide, .inl T.g_Ring⟩ (fun V pn xe tk pso => (pss_one (ps_set (i := 2) sc_Machine_go.nd rfl (Or.inl rfl) (pe_callS (E := WE V) G_run_on.ok (hr.mono (by omega)) rfl T.g_run_on G_run_on.kp G_run_on.bd (fun σ => L2N.passAt tk σ) (pa_cons (pv 0) (pa_cons (pv 1) pa_nil)))))) (fun a oe cls d pn hz hf => (pss_cons (ps_fld (pv 0) pe_str rfl) (pss_cons (ps_fld (pv 0) (pe_byRg T.ring (L2N.Zn.zc hz) hf (pv 3)) rfl) (pss_one (ps_ret (L2H.pe_callH (E := fun _ => E0) Hok ⟨(hr.mono (by omega : 1 ≤ _)).dp, (hr.mono (by omega : 1 ≤ _)).un⟩ (hf.elim fun vs hd => ⟨(a, oe), ⟨rfl, vs, hd, hz.2.2 vs hd⟩, List.mem_cons_self⟩) rfl T.g_outcome Hkp Hbd (fun _ _ _ _ _ _ _ z => z.elim) (pa_cons (pv 0) (pa_cons pe_str pa_nil)))))))) (pss_one (ps_ret (pe_call G_outcome.ok (hr.mono (by omega)) rfl T.g_outcome G_outcome.kp G_outcome.bd .nil pass0 (pa_cons (pv 0) (pa_cons (pv 2) pa_nil))))))), ?_⟩
  have q2 : ∀ (r L c : Addr) (word : Str) (wv : V) (H0 H1 : Hp) (S' : S83) (t' : Nat), Lay K A H0 S' → Good S'.log S'.labels t' → S'.log.length ≤ 30000 → Same H0 H1 → H1 r = some (.tup [.str word, wv, .ref c, .ref L]) → H1 L = some (.lst S'.logv) → (word = "told" → nums (W S'.log) = []) → (word = "ring" → ∃ q, wv = .ref q ∧ RingOut S' H1 q) → Q (.ref r) H1 :=
    fun r L c word wv H0 H1 S' t' La Gd ln sm hr' hL ht hg => q r L c word wv H1 S' t' hr' ⟨hL, La.rows.keep (sameTupK sm), Gd, ln, ht, hg⟩
  refine ⟨_, rfl, _, rfl, ?_⟩
  refine ⟨A, M, S, t, pl, b, hv, most, rfl, s, e0, hst, hm, fun word M' H' S' t' pl' b' hv' s' hst' hf => ?_, fun S' t' dd r H' L' Gd ln ring hx => ?_⟩
  · -- it went through
    have b2 := s'.bg
    have b4 := s'.bw
    refine ⟨_, rfl, _, rfl, A, S', word, rfl, s'.core.lay, fun _ => ⟨by omega, s'.ws⟩, by omega, fun e => ?_, fun r L c wv H1 sm hr' hL hw => ?_⟩
    · rcases hf with (⟨h, _⟩ | ⟨_, h⟩ | h) | h
      · rw [h] at e; exact absurd e (by decide +kernel)
      · exact h
      · rw [h] at e; exact absurd e (by decide +kernel)
      · rw [h] at e; exact absurd e (by decide +kernel)
    · refine q2 r L c word wv H' H1 S' t' s'.core.lay s'.core.good (by omega) sm hr' hL (fun e => ?_) (fun e => ?_)
      · rcases hf with (⟨_, h⟩ | ⟨h, _⟩ | h) | h
        · rw [← s'.core.way]
          have l := s'.core.fr.1
          rw [h] at l
          rw [List.eq_nil_of_length_eq_zero l.symm]
          rfl
        · rw [h] at e; exact absurd e (by decide +kernel)
        · rw [h] at e; exact absurd e (by decide +kernel)
        · rw [h] at e; exact absurd e (by decide +kernel)
      · rcases hf with (⟨h, _⟩ | ⟨h, _⟩ | h) | h <;> · rw [h] at e; exact absurd e (by decide +kernel)
  · -- a ring
    refine ⟨T.e_Ring, fun a ha => ?_⟩
    refine ⟨_, rfl, A.m, _, _, _, rfl, L'.ob, T.c_Machine, T.n_Machine_ended, fl_len, ?_⟩
    rw [pf_ended]
    have L1 := L'.fld { S' with ended := "ring" }
    have m1 := mvm (A := A) (H := H') (o := .ins (He.ga K "Machine") A.dx (flds A { S' with ended := "ring" }))
    have hx1 := m1 _ _ hx (L'.outX hx)
    refine ⟨_, rfl, rfl, rfl, dd, .ref r, rfl, hx1, ?_⟩
    refine ⟨_, rfl, A.m, _, _, _, rfl, L1.ob, T.c_Machine, T.n_Machine_what, fl_len, ?_⟩
    rw [pf_what]
    have L2 := L1.fld { S' with ended := "ring", what := .ref r }
    have m2 := m1.trans (mvm (A := A) (o := .ins (He.ga K "Machine") A.dx (flds A { S' with ended := "ring", what := .ref r })))
    refine ⟨_, rfl, A, _, "ring", rfl, L2, fun e => absurd e (by decide +kernel), by show S'.log.length ≤ _; omega, fun e => absurd e (by decide +kernel), fun r2 L c wv H1 sm hr' hL hw => ?_⟩
    obtain ⟨ls, i, h1, h2, h3⟩ := ring
    refine q2 r2 L c "ring" wv _ H1 _ t' L2 Gd ln sm hr' hL (fun e => absurd e (by decide +kernel)) (fun _ => ⟨r, hw rfl, ls, i, sm _ _ ((L'.tupK m2) _ _ h1), h2, h3⟩)
end
end W83

namespace W83
open PySem PySem.Spec PyProof.Rows L2
abbrev N_run : List Str := ["term", "depth", "most"]
abbrev P_run : List Str := ["term", "depth", "most"]
theorem sc_run : FnScope N_run P_run d_run.scope := ⟨rfl, rfl, rfl, by decide +kernel, rfl, by decide +kernel, by decide +kernel⟩

def spRun (K : PySem.W.Frag) (D : Nat) : Sp := fun vs H Q _ => ∃ (v : V) (d most : Int), vs = [v, .int d, .int most] ∧ Tm (fun _ => False) H D v ∧ most ≤ 1000 ∧ OutK K Q
section
variable {P : Program} {w : World} {K : PySem.W.Frag} {mg : Str → Option Value} {base : Heap}
theorem ok_run (T : Top K mg) (D : Nat) : Keeps P w K mg base CX0 (2 * D + 9) d_run P_run (spRun K D) := by
  obtain ⟨fd, F, bd⟩ := T.f_run
  obtain ⟨_, G_Machine_init⟩ := ok_machine_init (P := P) (w := w) (base := base) T
  obtain ⟨_, G_Machine_go⟩ := ok_go (P := P) (w := w) (base := base) T D
  refine keeps0 F bd sc_run (fun vs H Q E h => ?_) (fun cdv AA outer sh H vs Q E hr h => ?_)
  · obtain ⟨v, d, most, rfl, _⟩ := h
    rfl
  obtain ⟨v, d, most, rfl, hv, hm, q⟩ := h
  refine ⟨_, (pss_one (ps_ret (pe_meth (pe_make T.k_Machine G_Machine_init.ok (hr.mono (by omega)) rfl T.g_Machine G_Machine_init.bd .nil pass0 (pa_cons (pv 0) (pa_cons (pv 1) pa_nil))) T.c_Machine T.m_go G_Machine_go.ok (hr.mono (by omega)) G_Machine_go.bd .nil pass0 (pa_cons (pv 2) pa_nil)))), ?_⟩
  refine ⟨_, rfl, _, rfl, fun x dx hx hdx hne => ?_⟩
  refine ⟨x, dx, v, d, rfl, upd_same, fun A e H' hA L he keep => ⟨rfl, ?_⟩⟩
  subst hA
  have k : TupK H H' := fun b xs hb => keep b _ (by rw [upd_ne (ne_of_none hb hx), upd_ne (ne_of_none hb hdx)]; exact hb) (ne_of_none hb hx)
  refine ⟨A.m, _, _, rfl, L.ob, fl_go, _, rfl, ?_⟩
  refine ⟨A, fun _ => False, S0 v d e, 0, [], true, 0, most, rfl, ⟨⟨L, Good.nil, ⟨rfl, fun i v p h => by simp [S0] at h⟩, rfl, fun q hq => by cases hq⟩, fun k h => h.elim, Nat.le_refl _, .inl ⟨rfl, rfl, rfl⟩, .inl ⟨rfl, rfl, rfl, _, rfl, e, v, d, rfl, he, hv.keep k⟩, ?_, ?_, ?_, ?_, fun x hx => by cases hx⟩, rfl, ?_, hm, q⟩
  all_goals simp [S0]
end
end W83

namespace W83
open PySem PySem.Spec PyProof.Rows L2
abbrev N_wants : List Str := ["log", "rows", "way", "event", "number", "label", "steps", "by", "place"]
abbrev P_wants : List Str := ["log"]
theorem sc_wants : FnScope N_wants P_wants d_wants.scope := ⟨rfl, rfl, rfl, by decide +kernel, rfl, by decide +kernel, by decide +kernel⟩

def optV : Option Nat → V
  | none => .non
  | some k => .int ((k : Nat) : Int)
abbrev wrowV (r : WRow) : List V := [.int ((r.n : Nat) : Int), .str r.l, optV r.by_, .int ((r.b : Nat) : Int), optV r.d]
def WRowAt (H : Hp) (v : V) (r : WRow) : Prop := ∃ a, v = .ref a ∧ H a = some (.tup (wrowV r))
def WRowsAt (H : Hp) (vs : List V) (g : List WRow) : Prop := vs.length = g.length ∧ ∀ (i : Nat) (v : V) (r : WRow), vs[i]? = some v → g[i]? = some r → WRowAt H v r
theorem WRowAt.keep {H H' : Hp} {v : V} {r : WRow} (h : WRowAt H v r) (k : TupK H H') : WRowAt H' v r := by
  obtain ⟨a, e, ha⟩ := h
  exact ⟨a, e, k _ _ ha⟩
theorem WRowsAt.keep {H H' : Hp} {vs : List V} {g : List WRow} (h : WRowsAt H vs g) (k : TupK H H') : WRowsAt H' vs g := ⟨h.1, fun i v r a b => (h.2 i v r a b).keep k⟩
theorem WRowsAt.get {H : Hp} {vs : List V} {g : List WRow} (h : WRowsAt H vs g) {i : Nat} {r : WRow} (e : g[i]? = some r) : ∃ a, vs[i]? = some (.ref a) ∧ H a = some (.tup (wrowV r)) := by
  have hlt : i < vs.length := by rw [h.1]; exact lt_len e
  obtain ⟨a, e1, e2⟩ := h.2 i vs[i] r (List.getElem?_eq_getElem hlt) e
  exact ⟨a, by rw [List.getElem?_eq_getElem hlt, e1], e2⟩
theorem WRowsAt.set {H : Hp} {vs : List V} {g : List WRow} (h : WRowsAt H vs g) {p : Nat} {v : V} {r : WRow} (hv : WRowAt H v r) : WRowsAt H (vs.set p v) (g.set p r) := by
  refine ⟨by simp [h.1], fun i u q a b => ?_⟩
  by_cases e : p = i
  · subst e
    rw [List.getElem?_set_self' ] at a b
    cases ha : vs[p]? with
    | none => rw [ha] at a; cases a
    | some x =>
      cases hb : g[p]? with
      | none => rw [hb] at b; cases b
      | some y =>
        rw [ha] at a
        rw [hb] at b
        cases a
        cases b
        exact hv
  · rw [List.getElem?_set_ne e] at a b
    exact h.2 i u q a b
theorem RowsAt.get {H : Hp} {vs : List V} {g : List LRow} (h : RowsAt H vs g) {i : Nat} {v : V} (e : vs[i]? = some v) : ∃ r a, g[i]? = some r ∧ v = .ref a ∧ H a = some (.tup (rowV r)) := by
  have hlt : i < g.length := by rw [← h.1]; exact lt_len e
  obtain ⟨a, e1, e2⟩ := h.2 i v g[i] e (List.getElem?_eq_getElem hlt)
  exact ⟨g[i], a, List.getElem?_eq_getElem hlt, e1, e2⟩
/-- a log in the heap -/
structure LogAt (H : Hp) (L : Addr) (logv : List V) (g : List LRow) (Lb : List Str) (t : Nat) : Prop where
  at_ : H L = some (.lst logv)
  rows : RowsAt H logv g
  good : Good g Lb t
  len : g.length ≤ 50000
theorem LogAt.same {H H' : Hp} {L : Addr} {logv : List V} {g : List LRow} {Lb : List Str} {t : Nat} (h : LogAt H L logv g Lb t) (s : Same H H') : LogAt H' L logv g Lb t := ⟨s _ _ h.at_, h.rows.keep (sameTupK s), h.good, h.len⟩
def spWants : Sp := fun vs H Q _ => ∃ (L : Addr) (logv : List V) (g : List LRow) (Lb : List Str) (t : Nat), vs = [.ref L] ∧ LogAt H L logv g Lb t ∧ ∀ (R : Addr) (rv : List V) (H' : Hp), Same H H' → H' R = some (.lst rv) → WRowsAt H' rv (W g).1 → Q (.ref R) H'
section
variable {P : Program} {w : World} {K : PySem.W.Frag} {mg : Str → Option Value} {base : Heap}
theorem W_len (g : List LRow) : (W g).1.length ≤ g.length ∧ (W g).2.length ≤ g.length := by
  have key : ∀ n, (W (g.take n)).1.length ≤ n ∧ (W (g.take n)).2.length ≤ n := fun n => by
    induction n with
    | zero => exact ⟨Nat.le_refl _, Nat.le_refl _⟩
    | succ n ih =>
      cases h : g[n]? with
      | none =>
        have : g.take (n + 1) = g.take n := by
          have := List.getElem?_eq_none_iff.mp h
          rw [List.take_of_length_le (by omega), List.take_of_length_le this]
        rw [this]; omega
      | some r =>
        rw [W_take h]
        obtain ⟨e, k, l, s⟩ := r
        cases e with
        | born => exact ⟨by show (W _).1.length ≤ _; omega, by show (W _).2.length ≤ _; omega⟩
        | again => exact ⟨by show (W _).1.length ≤ _; omega, by show (W _).2.length ≤ _; omega⟩
        | enter => exact ⟨by show ((W _).1 ++ [_]).length ≤ _; rw [List.length_append]; simp; omega, by show ((W _).2 ++ [_]).length ≤ _; rw [List.length_append]; simp; omega⟩
        | back =>
          unfold wstep
          dsimp only
          split
          · split
            · exact ⟨by rw [List.length_set]; omega, by rw [List.length_dropLast]; omega⟩
            · omega
          · omega
  have := key g.length
  rwa [List.take_of_length_le (Nat.le_refl _)] at this
theorem ixn {n j : Nat} (hj : j < n) : ixN n ((j : Nat) : Int) = some j := by
  unfold ixN
  rw [if_pos (by omega), if_pos (by omega)]
  simp
theorem ok_wants (T : Top K mg) : Keeps P w K mg base CX0 1 d_wants P_wants spWants := by
  obtain ⟨fd, F, bd⟩ := T.f_wants
  refine keeps0 F bd sc_wants (fun vs H Q E h => ?_) (fun cdv AA outer sh H vs Q E hr h => ?_)
  · obtain ⟨L, logv, g, Lb, t, rfl, _⟩ := h
    rfl
  obtain ⟨L, logv, g, Lb, t, rfl, hL, q⟩ := h
  refine ⟨_, (pss_cons (ps_set (i := 1) sc_wants.nd rfl (Or.inl rfl) (pe_lst pa_nil))
    (pss_cons (ps_set (i := 2) sc_wants.nd rfl (Or.inl rfl) (pe_lst pa_nil))
    (pss_cons (ps_for PassesOwn.never rfl (pi_list (pv 0)) (pg_tup rfl (pgs_cons (pg_name (i := 3) sc_wants.nd rfl (Or.inl rfl)) (pgs_cons (pg_name (i := 4) sc_wants.nd rfl (Or.inl rfl)) (pgs_cons (pg_name (i := 5) sc_wants.nd rfl (Or.inl rfl)) (pgs_cons (pg_name (i := 6) sc_wants.nd rfl (Or.inl rfl)) pgs_nil)))))
    (pss_one (ps_if (pt_cmpR op_eq (pv 3) pe_str (nomark _))
    (pss_cons (ps_set (i := 7) sc_wants.nd rfl (Or.inl rfl) pe_non)
    (pss_cons (ps_if (pt_cmpR op_gt (pe_callB call_len_seq (by rfl) T.z_len PySem.boot_len (pa_cons (pv 2) pa_nil)) pe_int (nomark _))
    (pss_one (ps_set (i := 7) sc_wants.nd rfl (Or.inl rfl) (pe_ix ix_tup (pe_ix ix_list (pv 1) (pe_ix ix_list (pv 2) (pe_un un_neg pe_int) (fun _ _ => rfl)) (fun _ _ => rfl)) pe_int (fun _ _ => rfl))))
    pss_nil)
    (pss_cons (ps_expr (pe_bm PySem.F.plainAttrs_list PySem.F.slot_list_append PySem.F.type_list_append mt_append (pv 2) (pa_cons (pe_callB call_len_seq (by rfl) T.z_len PySem.boot_len (pa_cons (pv 1) pa_nil)) pa_nil)))
    (pss_one (ps_expr (pe_bm PySem.F.plainAttrs_list PySem.F.slot_list_append PySem.F.type_list_append mt_append (pv 1) (pa_cons (pe_tup (pa_cons (pv 4) (pa_cons (pv 5) (pa_cons (pv 7) (pa_cons (pv 6) (pa_cons pe_non pa_nil)))))) pa_nil)))))))
    (pss_one (ps_if (pt_cmpR op_eq (pv 3) pe_str (nomark _))
    (pss_cons (ps_set (i := 8) sc_wants.nd rfl (Or.inl rfl) (pe_bm0 PySem.F.plainAttrs_list PySem.F.slot_list_pop PySem.F.type_list_pop mt_pop (pv 2)))
    (pss_one (ps_asg (pe_tup (pa_cons (pv 4) (pa_cons (pv 5) (pa_cons (pe_ix ix_tup (pe_ix ix_list (pv 1) (pv 8) (fun _ _ => rfl)) pe_int (fun _ _ => rfl)) (pa_cons (pe_ix ix_tup (pe_ix ix_list (pv 1) (pv 8) (fun _ _ => rfl)) pe_int (fun _ _ => rfl)) (pa_cons (pv 6) pa_nil)))))) (pg_sub (pv 1) (pv 8) set_list))))
    pss_nil)))))
    (pss_one (ps_ret (pv 1)))))), ?_⟩
  refine ⟨small50 (by simp), fun R hR => ⟨small50 (by simp), fun Y hY => ?_⟩⟩
  have s0 := (same_new (o := .lst []) hR).trans (same_new (o := .lst []) hY)
  have nRY : R ≠ Y := fun z => by rw [z, upd_same] at hY; cases hY
  have hY0 : H Y = none := by rw [upd_ne (Ne.symm nRY)] at hY; exact hY
  refine ⟨_, rfl, L, rfl, ⟨logv, SqL.of (s0 _ _ hL.at_)⟩, for_list (K := K) (a := L) (xs := logv)
    (fun i σ G => ∃ v3 v4 v5 v6 v7 v8, σ = [some (.ref L), some (.ref R), some (.ref Y), v3, v4, v5, v6, v7, v8] ∧ Same H G ∧ ∃ rv, G R = some (.lst rv) ∧ WRowsAt G rv (W (g.take i)).1 ∧ G Y = some (.lst (intsV (W (g.take i)).2)))
    ⟨_, _, _, _, _, _, rfl, s0, [], by rw [upd_ne nRY, upd_same], ⟨rfl, fun i v r h => by cases h⟩, upd_same⟩ (fun i σ G _ h => ?_) ?_ ?_⟩
  · obtain ⟨_, _, _, _, _, _, _, s, _⟩ := h
    exact SqL.of (s _ _ hL.at_)
  · rintro i v σ G hi ⟨v3, v4, v5, v6, v7, v8, rfl, sG, rv, gR, hrv, gY⟩
    obtain ⟨r, a, hr', rfl, ha⟩ := hL.rows.get hi
    have ha1 := sG _ _ ha
    have hlt := lt_len hr'
    obtain ⟨L', t', G'⟩ := hL.good.pre i (by omega)
    have Fc := G'.fact
    obtain ⟨lw1, lw2⟩ := W_len (g.take i)
    have lgt : (g.take i).length ≤ i := by rw [List.length_take]; omega
    have hlen := hL.len
    refine ⟨a, _, rfl, SqT.of ha1, rfl, _, _, rfl, _, _, rfl, _, _, rfl, _, _, rfl, rfl, ?_⟩
    obtain ⟨ev, n, l, s⟩ := r
    cases ev with
    | born =>
      refine ⟨_, rfl, rfl, _, rfl, ifF (show decide (V.str (Ev.str .born) = V.str "enter") = false by decide +kernel) ?_⟩
      refine ⟨_, rfl, rfl, _, rfl, ifF (show decide (V.str (Ev.str .born) = V.str "back") = false by decide +kernel) ?_⟩
      refine ⟨_, _, _, _, _, _, rfl, sG, rv, gR, ?_⟩
      rw [W_take hr']
      exact ⟨hrv, gY⟩
    | again =>
      refine ⟨_, rfl, rfl, _, rfl, ifF (show decide (V.str (Ev.str .again) = V.str "enter") = false by decide +kernel) ?_⟩
      refine ⟨_, rfl, rfl, _, rfl, ifF (show decide (V.str (Ev.str .again) = V.str "back") = false by decide +kernel) ?_⟩
      refine ⟨_, _, _, _, _, _, rfl, sG, rv, gR, ?_⟩
      rw [W_take hr']
      exact ⟨hrv, gY⟩
    | enter =>
      refine ⟨_, rfl, rfl, _, rfl, ifT (show decide (V.str (Ev.str .enter) = V.str "enter") = true by decide +kernel) ?_⟩
      by_cases hw : (W (g.take i)).2 = []
      · refine ⟨_, rfl, Y, _, rfl, .inl (SqL.of gY), _, _, rfl, rfl, _, rfl, ifF (by rw [hw]; decide +kernel) ?_⟩
        have et : topRow (W (g.take i)) = none := by unfold topRow; rw [hw]; rfl
        refine ⟨_, rfl, .inl ⟨rfl, _, SqL.of gY⟩, _, rfl, R, _, rfl, .inl (SqL.of gR), Y, _, _, rfl, rfl, gY, small9 (by rw [List.length_map]; omega), ?_⟩
        have hY2 := sty_off (o := .lst (intsV (W (g.take i)).2 ++ [.int ((rv.length : Nat) : Int)])) (.inl ⟨_, gY⟩)
        have gR2 : (upd G Y (.lst (intsV (W (g.take i)).2 ++ [.int ((rv.length : Nat) : Int)]))) R = some (.lst rv) := by rw [upd_ne nRY]; exact gR
        refine ⟨_, rfl, .inl ⟨rfl, _, SqL.of gR2⟩, _, rfl, _, rfl, _, rfl, _, rfl, small50 (by simp), fun u hu => ?_⟩
        have e3 := same_new (o := .tup [.int ((n : Nat) : Int), .str l, V.non, .int ((s : Nat) : Int), .non]) hu
        refine ⟨R, _, _, rfl, rfl, e3 _ _ gR2, small9 (by rw [hrv.1]; omega), ?_⟩
        have hR3 := sty_off (o := .lst (rv ++ [.ref u])) (.inl ⟨_, e3 _ _ gR2⟩)
        have sG3 := same_grow (o := .lst (rv ++ [.ref u])) ((same_grow (o := .lst (intsV (W (g.take i)).2 ++ [.int ((rv.length : Nat) : Int)])) sG hY0).trans e3) hR
        refine ⟨_, _, _, _, _, _, rfl, sG3, rv ++ [.ref u], upd_same, ?_, ?_⟩
        · rw [W_take hr']
          exact snoc2 (P := WRowAt _) ((hrv.keep hY2.1).keep (sameTupK e3) |>.keep hR3.1) ⟨u, rfl, show _ = some (HO.tup (wrowV ⟨n, l, topRow (W (g.take i)), s, none⟩)) by rw [et]; exact hR3.1 _ _ upd_same⟩
        · rw [upd_ne (Ne.symm nRY), e3 _ _ upd_same, W_take hr', hrv.1]
          unfold intsV
          rw [show (wstep (W (g.take i)) ⟨.enter, n, l, s⟩).2 = (W (g.take i)).2 ++ [(W (g.take i)).1.length] from rfl, List.map_append]
          rfl
      · obtain ⟨w', p, hwp⟩ := snocL (n := (W (g.take i)).2.length - 1) (l := (W (g.take i)).2) (by have := List.length_pos_iff.mpr hw; omega)
        refine ⟨_, rfl, Y, _, rfl, .inl (SqL.of gY), _, _, rfl, rfl, _, rfl, ifT (by rw [List.length_map]; have := List.length_pos_iff.mpr hw; exact decide_eq_true (by omega)) ?_⟩
        have hp := Fc.wlt p (by rw [hwp]; simp)
        obtain ⟨c, hc1, hc2⟩ := hrv.get (List.getElem?_eq_getElem hp)
        have et : topRow (W (g.take i)) = some (W (g.take i)).1[p].n := by
          unfold topRow
          rw [hwp, List.getLast?_concat]
          simp [hp]
        have hat : atI (intsV (W (g.take i)).2) (-1) = some (.int ((p : Nat) : Int)) := by
          rw [hwp]
          unfold intsV
          rw [List.map_append]
          exact atI_last _ _
        refine ⟨_, rfl, _, rfl, ⟨_, rfl, Y, _, _, _, rfl, rfl, SqL.of gY, hat, R, _, _, _, rfl, rfl, SqL.of gR, at_get hc1, c, _, _, _, rfl, rfl, SqT.of hc2, rfl, ?_⟩⟩
        refine ⟨_, rfl, .inl ⟨rfl, _, SqL.of gY⟩, _, rfl, R, _, rfl, .inl (SqL.of gR), Y, _, _, rfl, rfl, gY, small9 (by rw [List.length_map]; omega), ?_⟩
        have hY2 := sty_off (o := .lst (intsV (W (g.take i)).2 ++ [.int ((rv.length : Nat) : Int)])) (.inl ⟨_, gY⟩)
        have gR2 : (upd G Y (.lst (intsV (W (g.take i)).2 ++ [.int ((rv.length : Nat) : Int)]))) R = some (.lst rv) := by rw [upd_ne nRY]; exact gR
        refine ⟨_, rfl, .inl ⟨rfl, _, SqL.of gR2⟩, _, rfl, _, rfl, _, rfl, _, rfl, small50 (by simp), fun u hu => ?_⟩
        have e3 := same_new (o := .tup [.int ((n : Nat) : Int), .str l, (V.int (((W (g.take i)).1[p].n : Nat) : Int)), .int ((s : Nat) : Int), .non]) hu
        refine ⟨R, _, _, rfl, rfl, e3 _ _ gR2, small9 (by rw [hrv.1]; omega), ?_⟩
        have hR3 := sty_off (o := .lst (rv ++ [.ref u])) (.inl ⟨_, e3 _ _ gR2⟩)
        have sG3 := same_grow (o := .lst (rv ++ [.ref u])) ((same_grow (o := .lst (intsV (W (g.take i)).2 ++ [.int ((rv.length : Nat) : Int)])) sG hY0).trans e3) hR
        refine ⟨_, _, _, _, _, _, rfl, sG3, rv ++ [.ref u], upd_same, ?_, ?_⟩
        · rw [W_take hr']
          exact snoc2 (P := WRowAt _) ((hrv.keep hY2.1).keep (sameTupK e3) |>.keep hR3.1) ⟨u, rfl, show _ = some (HO.tup (wrowV ⟨n, l, topRow (W (g.take i)), s, none⟩)) by rw [et]; exact hR3.1 _ _ upd_same⟩
        · rw [upd_ne (Ne.symm nRY), e3 _ _ upd_same, W_take hr', hrv.1]
          unfold intsV
          rw [show (wstep (W (g.take i)) ⟨.enter, n, l, s⟩).2 = (W (g.take i)).2 ++ [(W (g.take i)).1.length] from rfl, List.map_append]
          rfl
    | back =>
      refine ⟨_, rfl, rfl, _, rfl, ifF (show decide (V.str (Ev.str .back) = V.str "enter") = false by decide +kernel) ?_⟩
      refine ⟨_, rfl, rfl, _, rfl, ifT (show decide (V.str (Ev.str .back) = V.str "back") = true by decide +kernel) ?_⟩
      obtain ⟨w', p, x, hwp, hx⟩ := hL.good.turn hr' rfl
      obtain ⟨c, hc1, hc2⟩ := hrv.get hx
      have gY0 := gY
      rw [hwp] at gY0
      unfold intsV at gY0
      rw [List.map_append] at gY0
      refine ⟨_, rfl, .inl ⟨rfl, _, SqL.of gY⟩, Y, _, .int ((p : Nat) : Int), rfl, rfl, gY0, lastA, ?_⟩
      have ed : (w'.map (fun k => V.int ((k : Nat) : Int)) ++ [p].map (fun k => V.int ((k : Nat) : Int))).dropLast = intsV w' := List.dropLast_concat
      rw [ed]
      have hY2 := sty_off (o := .lst (intsV w')) (.inl ⟨_, gY⟩)
      have gR2 : (upd G Y (.lst (intsV w'))) R = some (.lst rv) := by rw [upd_ne nRY]; exact gR
      have hc3 := hY2.1 _ _ hc2
      refine ⟨_, rfl, _, rfl, _, rfl, _, rfl, R, _, _, _, rfl, rfl, SqL.of gR2, at_get hc1, c, _, _, _, rfl, rfl, SqT.of hc3, rfl, ⟨_, rfl, _, rfl, R, _, _, _, rfl, rfl, SqL.of gR2, at_get hc1, c, _, _, _, rfl, rfl, SqT.of hc3, rfl, _, rfl, small50 (by simp), fun u hu => ?_⟩⟩
      have e3 := same_new (o := .tup [.int ((n : Nat) : Int), .str l, optV x.by_, .int ((x.b : Nat) : Int), .int ((s : Nat) : Int)]) hu
      have hp : p < rv.length := by rw [hrv.1]; exact lt_len hx
      refine ⟨_, rfl, _, rfl, R, rv, _, p, rfl, rfl, e3 _ _ gR2, ixn hp, ?_⟩
      have hR3 := sty_off (o := .lst (rv.set p (.ref u))) (.inl ⟨_, e3 _ _ gR2⟩)
      have sG3 := same_grow (o := .lst (rv.set p (.ref u))) ((same_grow (o := .lst (intsV w')) sG hY0).trans e3) hR
      refine ⟨_, _, _, _, _, _, rfl, sG3, rv.set p (.ref u), upd_same, ?_, ?_⟩
      · rw [W_take hr', wback hwp hx]
        exact (((hrv.keep hY2.1).keep (sameTupK e3)).keep hR3.1).set ⟨u, rfl, hR3.1 _ _ upd_same⟩
      · rw [upd_ne (Ne.symm nRY), e3 _ _ upd_same, W_take hr', wback hwp hx]
  · rintro σ G ⟨v3, v4, v5, v6, v7, v8, rfl, sG, rv, gR, hrv, gY⟩
    rw [hL.rows.1, List.take_of_length_le (Nat.le_refl _)] at hrv
    exact ⟨_, rfl, q R rv G sG gR hrv⟩
end
end W83

namespace W83
open PySem PySem.Spec PyProof.Rows L2
abbrev N_idle : List Str := ["log", "entered", "event", "number", "label", "steps", "found"]
abbrev P_idle : List Str := ["log"]
theorem sc_idle : FnScope N_idle P_idle d_idle.scope := ⟨rfl, rfl, rfl, by decide +kernel, rfl, by decide +kernel, by decide +kernel⟩

abbrev N_why : List Str := ["log", "number", "wanted_by", "one", "label", "by", "begun", "done", "found"]
abbrev P_why : List Str := ["log", "number"]
theorem sc_why : FnScope N_why P_why d_why.scope := ⟨rfl, rfl, rfl, by decide +kernel, rfl, by decide +kernel, by decide +kernel⟩

def PairAt (H : Hp) (v : V) (p : Nat × Str) : Prop := ∃ a, v = .ref a ∧ H a = some (.tup [.int ((p.1 : Nat) : Int), .str p.2])
def PairsAt (H : Hp) (vs : List V) (g : List (Nat × Str)) : Prop := vs.length = g.length ∧ ∀ (i : Nat) (v : V) (r : Nat × Str), vs[i]? = some v → g[i]? = some r → PairAt H v r
theorem PairAt.keep {H H' : Hp} {v : V} {r : Nat × Str} (h : PairAt H v r) (k : TupK H H') : PairAt H' v r := by
  obtain ⟨a, e, ha⟩ := h
  exact ⟨a, e, k _ _ ha⟩
theorem PairsAt.keep {H H' : Hp} {vs : List V} {g : List (Nat × Str)} (h : PairsAt H vs g) (k : TupK H H') : PairsAt H' vs g := ⟨h.1, fun i v r a b => (h.2 i v r a b).keep k⟩
def spIdle : Sp := fun vs H Q _ => ∃ (L : Addr) (logv : List V) (g : List LRow) (Lb : List Str) (t : Nat), vs = [.ref L] ∧ LogAt H L logv g Lb t ∧ ∀ (R : Addr) (rv : List V) (H' : Hp), Same H H' → H' R = some (.lst rv) → PairsAt H' rv (idles g) → Q (.ref R) H'
def spWhy : Sp := fun vs H Q _ => ∃ (L : Addr) (logv : List V) (g : List LRow) (Lb : List Str) (t : Nat) (r : WRow), vs = [.ref L, .int ((r.n : Nat) : Int)] ∧ LogAt H L logv g Lb t ∧ r ∈ (W g).1 ∧ ∀ (R : Addr) (l : List Nat) (H' : Hp), Same H H' → H' R = some (.lst (intsV l)) → Chain (W g).1 (some r.n) l → Q (.ref R) H'
section
variable {P : Program} {w : World} {K : PySem.W.Frag} {mg : Str → Option Value} {base : Heap}
theorem ents_snoc (g : List LRow) (r : LRow) : ents (g ++ [r]) = ents g ++ (match r.ev with | .enter => [r.n] | _ => []) := by
  unfold ents
  rw [List.filterMap_append]
  obtain ⟨e, n, l, s⟩ := r
  cases e <;> rfl
theorem births_snoc (g : List LRow) (r : LRow) : births (g ++ [r]) = births g ++ (match r.ev with | .born => [(r.n, r.l)] | _ => []) := by
  unfold births
  rw [List.filterMap_append]
  obtain ⟨e, n, l, s⟩ := r
  cases e <;> rfl
theorem births_len_le (g : List LRow) : (births g).length ≤ g.length := List.length_filterMap_le _ _
theorem ok_idle (T : Top K mg) : Keeps P w K mg base CX0 1 d_idle P_idle spIdle := by
  obtain ⟨fd, F, bd⟩ := T.f_idle
  refine keeps0 F bd sc_idle (fun vs H Q E h => ?_) (fun cdv AA outer sh H vs Q E hr h => ?_)
  · obtain ⟨L, logv, g, Lb, t, rfl, _⟩ := h
    rfl
  obtain ⟨L, logv, g, Lb, t, rfl, hL, q⟩ := h
  refine ⟨_, (pss_cons (ps_set (i := 1) sc_idle.nd rfl (Or.inl rfl) pe_dnewK)
    (pss_cons (ps_for PassesOwn.never rfl (pi_list (pv 0)) (pg_tup rfl (pgs_cons (pg_name (i := 2) sc_idle.nd rfl (Or.inl rfl)) (pgs_cons (pg_name (i := 3) sc_idle.nd rfl (Or.inl rfl)) (pgs_cons (pg_name (i := 4) sc_idle.nd rfl (Or.inl rfl)) (pgs_cons (pg_name (i := 5) sc_idle.nd rfl (Or.inl rfl)) pgs_nil)))))
    (pss_one (ps_if (pt_cmpR op_eq (pv 2) pe_str (nomark _))
    (pss_one (ps_dput (hu_of hr) (pv 1) (pv 3) pe_bl rfl))
    pss_nil)))
    (pss_cons (ps_set (i := 6) sc_idle.nd rfl (Or.inl rfl) (pe_lst pa_nil))
    (pss_cons (ps_for PassesOwn.never rfl (pi_list (pv 0)) (pg_tup rfl (pgs_cons (pg_name (i := 2) sc_idle.nd rfl (Or.inl rfl)) (pgs_cons (pg_name (i := 3) sc_idle.nd rfl (Or.inl rfl)) (pgs_cons (pg_name (i := 4) sc_idle.nd rfl (Or.inl rfl)) (pgs_cons (pg_name (i := 5) sc_idle.nd rfl (Or.inl rfl)) pgs_nil)))))
    (pss_one (ps_if (PW.pt (pw_and (pt_cmpR op_eq (pv 2) pe_str (nomark _)) (pw_and1 (pt_cmp (pc_dnotin (hu_of hr) (pv 3) (pv 1))))))
    (pss_one (ps_expr (pe_bm PySem.F.plainAttrs_list PySem.F.slot_list_append PySem.F.type_list_append mt_append (pv 6) (pa_cons (pe_tup (pa_cons (pv 3) (pa_cons (pv 4) pa_nil))) pa_nil))))
    pss_nil)))
    (pss_one (ps_ret (pv 6))))))), ?_⟩
  intro E0 hE0
  have s0 := same_new (o := .dK []) hE0
  have hlen := hL.len
  have hll := hL.rows.1
  refine ⟨_, rfl, L, rfl, ⟨logv, SqL.of (s0 _ _ hL.at_)⟩, for_list (K := K) (a := L) (xs := logv)
    (fun i σ G => ∃ v2 v3 v4 v5 v6, σ = [some (.ref L), some (.ref E0), v2, v3, v4, v5, v6] ∧ Same H G ∧ ∃ kvs, G E0 = some (.dK kvs) ∧ kvs.length ≤ i ∧ ∀ k : Nat, (valV kvs (.inl (k : Int))).isSome = (ents (g.take i)).contains k)
    ⟨_, _, _, _, _, rfl, s0, [], upd_same, Nat.le_refl _, fun k => rfl⟩ (fun i σ G _ h => ?_) ?_ ?_⟩
  · obtain ⟨_, _, _, _, _, _, s, _⟩ := h
    exact SqL.of (s _ _ hL.at_)
  · rintro i v σ G hi ⟨v2, v3, v4, v5, v6, rfl, sG, kvs, gE, kl, hk⟩
    obtain ⟨r, a, hr', rfl, ha⟩ := hL.rows.get hi
    have ha1 := sG _ _ ha
    have hlt := lt_len hi
    refine ⟨a, _, rfl, SqT.of ha1, rfl, _, _, rfl, _, _, rfl, _, _, rfl, _, _, rfl, rfl, ?_⟩
    obtain ⟨ev, n, l, s⟩ := r
    cases ev
    case enter =>
      refine ⟨_, rfl, rfl, _, rfl, ifT (show decide (V.str (Ev.str .enter) = V.str "enter") = true by decide +kernel) ?_⟩
      refine ⟨_, rfl, _, rfl, E0, _, rfl, DPut.k (k := .inl ((n : Nat) : Int)) gE (small9 (by omega)), ?_⟩
      refine ⟨_, _, _, _, _, rfl, same_grow sG hE0, _, upd_same, Nat.le_trans (putK_len _ _ _) (Nat.succ_le_succ kl), fun k => ?_⟩
      rw [valV_put, take_snoc hr', ents_snoc]
      by_cases c : k = n
      · subst c
        simp
      · rw [if_neg (fun z => c (by injection z with z; omega)), hk k]
        simp [c]
    case born =>
      refine ⟨_, rfl, rfl, _, rfl, ifF (show decide (V.str (Ev.str .born) = V.str "enter") = false by decide +kernel) ?_⟩
      refine ⟨_, _, _, _, _, rfl, sG, kvs, gE, by omega, fun k => ?_⟩
      rw [hk k, take_snoc hr', ents_snoc]
      simp
    case again =>
      refine ⟨_, rfl, rfl, _, rfl, ifF (show decide (V.str (Ev.str .again) = V.str "enter") = false by decide +kernel) ?_⟩
      refine ⟨_, _, _, _, _, rfl, sG, kvs, gE, by omega, fun k => ?_⟩
      rw [hk k, take_snoc hr', ents_snoc]
      simp
    case back =>
      refine ⟨_, rfl, rfl, _, rfl, ifF (show decide (V.str (Ev.str .back) = V.str "enter") = false by decide +kernel) ?_⟩
      refine ⟨_, _, _, _, _, rfl, sG, kvs, gE, by omega, fun k => ?_⟩
      rw [hk k, take_snoc hr', ents_snoc]
      simp
  rintro σ G ⟨v2, v3, v4, v5, v6, rfl, sG, kvs, gE, kl, hk⟩
  rw [hll, List.take_of_length_le (Nat.le_refl _)] at hk
  refine ⟨small50 (by simp), fun R hR => ?_⟩
  have s1 := same_new (o := .lst []) hR
  refine ⟨_, rfl, L, rfl, ⟨logv, SqL.of (s1 _ _ (sG _ _ hL.at_))⟩, for_list (K := K) (a := L) (xs := logv)
    (fun i σ G' => ∃ v2 v3 v4 v5, σ = [some (.ref L), some (.ref E0), v2, v3, v4, v5, some (.ref R)] ∧ Same G G' ∧ ∃ rv, G' R = some (.lst rv) ∧ PairsAt G' rv ((births (g.take i)).filter fun p => !(ents g).contains p.1))
    ⟨_, _, _, _, rfl, s1, [], upd_same, rfl, fun i v r h => by cases h⟩ (fun i σ G' _ h => ?_) ?_ ?_⟩
  · obtain ⟨_, _, _, _, _, s, _⟩ := h
    exact SqL.of (s _ _ (sG _ _ hL.at_))
  · rintro i v σ G' hi ⟨v2, v3, v4, v5, rfl, sG', rv, gR, hrv⟩
    obtain ⟨r, a, hr', rfl, ha⟩ := hL.rows.get hi
    have ha1 := sG' _ _ (sG _ _ ha)
    have hlt := lt_len hi
    have gE' := sG' _ _ gE
    refine ⟨a, _, rfl, SqT.of ha1, rfl, _, _, rfl, _, _, rfl, _, _, rfl, _, _, rfl, rfl, ?_⟩
    obtain ⟨ev, n, l, s⟩ := r
    cases ev
    case born =>
      refine ⟨_, rfl, rfl, _, rfl, ifT (show decide (V.str (Ev.str .born) = V.str "born") = true by decide +kernel) ?_⟩
      refine ⟨_, rfl, _, rfl, E0, _, rfl, DGet.k (k := .inl ((n : Nat) : Int)) gE', _, rfl, ?_⟩
      rw [hk n]
      refine ifB (fun c => ?_) (fun c => ?_)
      · refine ⟨_, rfl, .inl ⟨rfl, _, SqL.of gR⟩, _, rfl, _, rfl, small50 (by simp), fun u hu => ?_⟩
        have e3 := same_new (o := .tup [.int ((n : Nat) : Int), .str l]) hu
        have lb := List.length_filter_le (fun p : Nat × Str => !(ents g).contains p.1) (births (g.take i))
        have lb2 := births_len_le (g.take i)
        have lb3 : (g.take i).length ≤ i := by rw [List.length_take]; omega
        refine ⟨R, _, _, rfl, rfl, e3 _ _ gR, small9 (by rw [hrv.1]; omega), ?_⟩
        have hR3 := sty_off (o := .lst (rv ++ [.ref u])) (.inl ⟨_, e3 _ _ gR⟩)
        refine ⟨_, _, _, _, rfl, same_grow (sG'.trans e3) hR, rv ++ [.ref u], upd_same, ?_⟩
        rw [take_snoc hr', births_snoc, List.filter_append]
        have : List.filter (fun p : Nat × Str => !(ents g).contains p.1) [(n, l)] = [(n, l)] := by
          rw [List.filter_cons_of_pos (by exact c)]
          rfl
        show PairsAt _ _ (_ ++ List.filter (fun p : Nat × Str => !(ents g).contains p.1) [(n, l)])
        rw [this]
        exact snoc2 (P := PairAt _) ((hrv.keep (sameTupK e3)).keep hR3.1) ⟨u, rfl, hR3.1 _ _ upd_same⟩
      · refine ⟨_, _, _, _, rfl, sG', rv, gR, ?_⟩
        rw [take_snoc hr', births_snoc, List.filter_append]
        have : List.filter (fun p : Nat × Str => !(ents g).contains p.1) [(n, l)] = [] := by
          rw [List.filter_cons_of_neg (by intro z; rw [c] at z; cases z)]
          rfl
        show PairsAt _ _ (_ ++ List.filter (fun p : Nat × Str => !(ents g).contains p.1) [(n, l)])
        rw [this, List.append_nil]
        exact hrv
    case enter =>
      refine ⟨_, rfl, rfl, _, rfl, ifF (show decide (V.str (Ev.str .enter) = V.str "born") = false by decide +kernel) (ifF rfl ?_)⟩
      refine ⟨_, _, _, _, rfl, sG', rv, gR, ?_⟩
      rw [take_snoc hr', births_snoc, List.filter_append]
      simpa using hrv
    case again =>
      refine ⟨_, rfl, rfl, _, rfl, ifF (show decide (V.str (Ev.str .again) = V.str "born") = false by decide +kernel) (ifF rfl ?_)⟩
      refine ⟨_, _, _, _, rfl, sG', rv, gR, ?_⟩
      rw [take_snoc hr', births_snoc, List.filter_append]
      simpa using hrv
    case back =>
      refine ⟨_, rfl, rfl, _, rfl, ifF (show decide (V.str (Ev.str .back) = V.str "born") = false by decide +kernel) (ifF rfl ?_)⟩
      refine ⟨_, _, _, _, rfl, sG', rv, gR, ?_⟩
      rw [take_snoc hr', births_snoc, List.filter_append]
      simpa using hrv
  rintro σ G' ⟨v2, v3, v4, v5, rfl, sG', rv, gR, hrv⟩
  rw [hll, List.take_of_length_le (Nat.le_refl _)] at hrv
  exact ⟨_, rfl, q R rv G' (sG.trans sG') gR hrv⟩
end
end W83

namespace W83
open PySem PySem.Spec PyProof.Rows L2
section
variable {P : Program} {w : World} {K : PySem.W.Frag} {mg : Str → Option Value} {base : Heap}
theorem optV_isN (o : Option Nat) : decide (optV o = .non) = o.isNone := by
  cases o <;> rfl
theorem ok_why (T : Top K mg) : Keeps P w K mg base CX0 2 d_why P_why spWhy := by
  obtain ⟨fd, F, bd⟩ := T.f_why
  obtain ⟨_, G_wants⟩ := ok_wants (P := P) (w := w) (base := base) T
  refine keeps0 F bd sc_why (fun vs H Q E h => ?_) (fun cdv AA outer sh H vs Q E hr h => ?_)
  · obtain ⟨L, logv, g, Lb, t, r, rfl, _⟩ := h
    rfl
  obtain ⟨L, logv, g, Lb, t, r0, rfl, hL, hr0, q⟩ := h
  refine ⟨_, (pss_cons (ps_set (i := 2) sc_why.nd rfl (Or.inl rfl) pe_dnewK)
    (pss_cons (ps_for PassesOwn.never rfl (pi_list (pe_call G_wants.ok (hr.mono (by decide)) rfl T.g_wants G_wants.kp G_wants.bd .nil pass0 (pa_cons (pv 0) pa_nil))) (pg_tup rfl (pgs_cons (pg_name (i := 3) sc_why.nd rfl (Or.inl rfl)) (pgs_cons (pg_name (i := 4) sc_why.nd rfl (Or.inl rfl)) (pgs_cons (pg_name (i := 5) sc_why.nd rfl (Or.inl rfl)) (pgs_cons (pg_name (i := 6) sc_why.nd rfl (Or.inl rfl)) (pgs_cons (pg_name (i := 7) sc_why.nd rfl (Or.inl rfl)) pgs_nil))))))
    (pss_one (ps_dput (hu_of hr) (pv 2) (pv 3) (pv 5) rfl)))
    (pss_cons (ps_if (pt_cmp (pc_dnotin (hu_of hr) (pv 1) (pv 2)))
    (pss_one ps_never)
    pss_nil)
    (pss_cons (ps_set (i := 8) sc_why.nd rfl (Or.inl rfl) (pe_lst pa_nil))
    (pss_cons (ps_while PassesOwn.never (pt_cmpR op_notN (pv 1) pe_non (nomark _))
    (pss_cons (ps_expr (pe_bm PySem.F.plainAttrs_list PySem.F.slot_list_append PySem.F.type_list_append mt_append (pv 8) (pa_cons (pv 1) pa_nil)))
    (pss_one (ps_set (i := 1) sc_why.nd rfl (Or.inl rfl) (pe_dget (hu_of hr) (pv 2) (pv 1) (fun _ _ => rfl))))))
    (pss_one (ps_ret (pv 8)))))))), ?_⟩
  have Fc := hL.good.fact
  have hlen := hL.len
  have lw := (W_len g).1
  intro D0 hD0
  have s0 := same_new (o := .dK []) hD0
  refine ⟨_, rfl, L, logv, g, Lb, t, rfl, hL.same s0, fun Rw rv H1 s1 gRw hrv => ?_⟩
  have s01 := s0.trans s1
  refine ⟨Rw, rfl, ⟨rv, SqL.of gRw⟩, for_list (K := K) (a := Rw) (xs := rv)
    (fun i σ G => ∃ v3 v4 v5 v6 v7 v8, σ = [some (.ref L), some (.int ((r0.n : Nat) : Int)), some (.ref D0), v3, v4, v5, v6, v7, v8] ∧ (∀ b o, H1 b = some o → b ≠ D0 → G b = some o) ∧ ∃ kvs, G D0 = some (.dK kvs) ∧ kvs.length ≤ i ∧ ∀ (j : Nat) (r : WRow), j < i → (W g).1[j]? = some r → valV kvs (.inl (r.n : Int)) = some (optV r.by_))
    ⟨_, _, _, _, _, _, rfl, fun b o h _ => h, [], s1 _ _ upd_same, Nat.le_refl _, fun j r hj => by omega⟩ (fun i σ G _ h => ?_) ?_ ?_⟩
  · obtain ⟨_, _, _, _, _, _, _, s, _⟩ := h
    exact SqL.of (s _ _ gRw (fun z => by rw [z, s1 _ _ upd_same] at gRw; cases gRw))
  · rintro i v σ G hi ⟨v3, v4, v5, v6, v7, v8, rfl, sG, kvs, gD, kl, hk⟩
    have hlt : i < (W g).1.length := by rw [← hrv.1]; exact lt_len hi
    have hr' : (W g).1[i]? = some (W g).1[i] := List.getElem?_eq_getElem hlt
    obtain ⟨a, rfl, ha⟩ := hrv.2 i v _ hi hr'
    obtain ⟨r, er⟩ : ∃ r, r = (W g).1[i] := ⟨_, rfl⟩
    rw [← er] at ha hr'
    have ha1 := sG _ _ ha (fun z => by rw [z, s1 _ _ upd_same] at ha; cases ha)
    refine ⟨a, _, rfl, SqT.of ha1, rfl, _, _, rfl, _, _, rfl, _, _, rfl, _, _, rfl, _, _, rfl, rfl, ?_⟩
    refine ⟨_, rfl, _, rfl, _, rfl, D0, _, rfl, DPut.k (k := .inl ((r.n : Nat) : Int)) gD (small9 (by omega)), ?_⟩
    refine ⟨_, _, _, _, _, _, rfl, fun b o e n => by rw [upd_ne n]; exact sG b o e n, _, upd_same, Nat.le_trans (putK_len _ _ _) (Nat.succ_le_succ kl), fun j q hj hq => ?_⟩
    rw [valV_put]
    by_cases c : (Sum.inl ((q.n : Nat) : Int) : Key) = .inl ((r.n : Nat) : Int)
    · rw [if_pos c]
      have e : q.n = r.n := by injection c with c; omega
      have := nd_eq Fc.nd hq hr' e
      subst this
      rw [hr'] at hq
      cases hq
      rfl
    · rw [if_neg c]
      by_cases ej : j = i
      · subst ej
        rw [hr'] at hq
        cases hq
        exact absurd rfl c
      · exact hk j q (by omega) hq
  rintro σ G ⟨v3, v4, v5, v6, v7, v8, rfl, sG, kvs, gD, kl, hk⟩
  rw [hrv.1] at hk
  have hk2 : ∀ r ∈ (W g).1, valV kvs (.inl (r.n : Int)) = some (optV r.by_) := fun r hr => by
    obtain ⟨j, hj, e⟩ := List.mem_iff_getElem.mp hr
    exact hk j r hj (by rw [List.getElem?_eq_getElem hj, e])
  have sHG : Same H G := fun b o e => sG b o (s01 _ _ e) (ne_of_none e hD0)
  refine ⟨_, rfl, _, rfl, D0, _, rfl, DGet.k (k := .inl ((r0.n : Nat) : Int)) gD, ?_⟩
  refine ⟨_, rfl, ?_⟩
  rw [hk2 r0 hr0]
  refine ifF rfl ?_
  refine ⟨small50 (by simp), fun R hR => ?_⟩
  have s2 := same_new (o := .lst []) hR
  obtain ⟨i0, hi0, ei0⟩ := List.mem_iff_getElem.mp hr0
  obtain ⟨l, hll, hl⟩ := Chain.make Fc (i0 + 1) i0 r0 (by omega) (by rw [List.getElem?_eq_getElem hi0, ei0])
  refine ⟨fun m σ G' => ∃ v3 v4 v5 v6 v7 o pre rest, σ = [some (.ref L), some (optV o), some (.ref D0), v3, v4, v5, v6, v7, some (.ref R)] ∧ Same G G' ∧ G' R = some (.lst (intsV pre)) ∧ l = pre ++ rest ∧ Chain (W g).1 o rest ∧ m = rest.length, ⟨_, _, _, _, _, _, some r0.n, [], l, rfl, s2, upd_same, rfl, hl, rfl⟩, ?_⟩
  rintro m σ G' ⟨v3, v4, v5, v6, v7, o, pre, rest, rfl, sG', gR, el, ch, rfl⟩
  refine ⟨_, rfl, rfl, ?_⟩
  rw [optV_isN]
  refine ⟨_, rfl, ?_⟩
  have lpre : pre.length ≤ 50000 := by
    have : l.length = pre.length + rest.length := by rw [el, List.length_append]
    omega
  cases ch with
  | nil =>
    refine ifF rfl ?_
    refine ⟨_, rfl, q R pre G' (sHG.trans sG') gR ?_⟩
    rw [List.append_nil] at el
    rw [← el]
    exact hl
  | @cons r rest' hr hc =>
    refine ifT rfl ?_
    refine ⟨fun σ G2 => ∃ m', m' < (r.n :: rest').length ∧ ∃ v3 v4 v5 v6 v7 o pre rest, σ = [some (.ref L), some (optV o), some (.ref D0), v3, v4, v5, v6, v7, some (.ref R)] ∧ Same G G2 ∧ G2 R = some (.lst (intsV pre)) ∧ l = pre ++ rest ∧ Chain (W g).1 o rest ∧ m' = rest.length, fun σ' H' h => h, ?_⟩
    refine ⟨_, rfl, .inl ⟨rfl, _, SqL.of gR⟩, _, rfl, R, _, _, rfl, rfl, gR, small9 (by rw [List.length_map]; omega), ?_⟩
    have gD2 : upd G' R (.lst (intsV pre ++ [.int ((r.n : Nat) : Int)])) D0 = some (.dK kvs) := by
      rw [upd_ne (fun z => by have := sG' _ _ gD; rw [z, gR] at this; cases this)]
      exact sG' _ _ gD
    refine ⟨_, rfl, _, rfl, D0, optV r.by_, rfl, hk2 r hr ▸ DGet.k (k := .inl ((r.n : Nat) : Int)) gD2, ?_⟩
    refine ⟨_, by show rest'.length < rest'.length + 1; omega, _, _, _, _, _, r.by_, pre ++ [r.n], rest', rfl, same_grow sG' hR, ?_, by rw [el]; simp, hc, rfl⟩
    rw [upd_same]
    unfold intsV
    rw [List.map_append]
    rfl
end
end W83

namespace W83
open PySem PySem.Spec PyProof.Rows L2
abbrev N_L_births : List Str := ["_law_log", "_law_found", "_law_event", "_law_number", "_law_label", "_law_steps"]
abbrev P_L_births : List Str := ["_law_log"]
theorem sc_L_births : FnScope N_L_births P_L_births d_L_births.scope := ⟨rfl, rfl, rfl, by decide +kernel, rfl, by decide +kernel, by decide +kernel⟩

abbrev N_L_all_there : List Str := ["_law_log", "_law_births_here", "_law_seen", "_law_number", "_law_label", "_law_by", "_law_begun", "_law_done"]
abbrev P_L_all_there : List Str := ["_law_log"]
theorem sc_L_all_there : FnScope N_L_all_there P_L_all_there d_L_all_there.scope := ⟨rfl, rfl, rfl, by decide +kernel, rfl, by decide +kernel, by decide +kernel⟩

abbrev bkv (ps : List (Nat × Str)) : List (Key × V) := ps.map fun p => (.inl ((p.1 : Nat) : Int), .str p.2)
abbrev skv (ns : List Nat) : List (Key × V) := ns.map fun n => (.inl ((n : Nat) : Int), .bl true)
theorem putK_snoc {κ : Type} [DecidableEq κ] {kvs : List (κ × V)} {k : κ} {v : V} (h : ∀ p ∈ kvs, p.1 ≠ k) : putK kvs k v = kvs ++ [(k, v)] := by
  unfold putK
  rw [if_neg]
  intro z
  obtain ⟨p, hp, e⟩ := List.any_eq_true.mp z
  exact h p hp (of_decide_eq_true e)
theorem valV_bkv : ∀ {ps : List (Nat × Str)} {p : Nat × Str}, (ps.map (·.1)).Nodup → p ∈ ps → valV (bkv ps) (.inl ((p.1 : Nat) : Int)) = some (.str p.2)
  | q :: r, p, nd, h => by
    have nd := List.nodup_cons.mp nd
    by_cases e : q.1 = p.1
    · have : q = p := by
        rcases List.mem_cons.mp h with h | h
        · exact h.symm
        · exact absurd (show q.1 ∈ r.map (·.1) from e.symm ▸ List.mem_map_of_mem (f := (·.1)) h) nd.1
      subst this
      exact valV_pos rfl
    · have h' : p ∈ r := by
        rcases List.mem_cons.mp h with h | h
        · exact absurd (by rw [h]) e
        · exact h
      show valV ((Sum.inl ((q.1 : Nat) : Int), V.str q.2) :: bkv r) _ = _
      rw [valV_neg (fun z => e (by injection z with z; omega))]
      exact valV_bkv nd.2 h'
theorem valV_skv (k : Nat) : ∀ (ns : List Nat), (valV (skv ns) (.inl ((k : Nat) : Int))).isSome = ns.contains k
  | [] => rfl
  | n :: r => by
    by_cases e : n = k
    · subst e
      rw [show valV (skv (n :: r)) (.inl ((n : Nat) : Int)) = some (.bl true) from valV_pos rfl]
      simp
    · rw [show valV (skv (n :: r)) (.inl ((k : Nat) : Int)) = valV (skv r) (.inl ((k : Nat) : Int)) from valV_neg (fun z => e (by injection z with z; omega)), valV_skv k r]
      simp [Ne.symm e]
theorem skv_snoc (ns : List Nat) (n : Nat) : skv ns ++ [(.inl ((n : Nat) : Int), .bl true)] = skv (ns ++ [n]) := by
  unfold skv
  rw [List.map_append]
  rfl
def spBirths : Sp := fun vs H Q _ => ∃ (L : Addr) (logv : List V) (g : List LRow) (Lb : List Str) (t : Nat), vs = [.ref L] ∧ LogAt H L logv g Lb t ∧ ∀ (R : Addr) (H' : Hp), Same H H' → H' R = some (.dK (bkv (births g))) → Q (.ref R) H'
def spAllThere : Sp := fun vs H Q _ => ∃ (L : Addr) (logv : List V) (g : List LRow) (Lb : List Str) (t : Nat), vs = [.ref L] ∧ LogAt H L logv g Lb t ∧ ∀ (H' : Hp), Same H H' → Q (.bl true) H'
section
variable {P : Program} {w : World} {K : PySem.W.Frag} {mg : Str → Option Value} {base : Heap}
theorem ok_births (T : Top K mg) : Keeps P w K mg base CX0 1 d_L_births P_L_births spBirths := by
  obtain ⟨fd, F, bd⟩ := T.f_L_births
  refine keeps0 F bd sc_L_births (fun vs H Q E h => ?_) (fun cdv AA outer sh H vs Q E hr h => ?_)
  · obtain ⟨L, logv, g, Lb, t, rfl, _⟩ := h
    rfl
  obtain ⟨L, logv, g, Lb, t, rfl, hL, q⟩ := h
  refine ⟨_, (pss_cons (ps_set (i := 1) sc_L_births.nd rfl (Or.inl rfl) pe_dnewK)
    (pss_cons (ps_for PassesOwn.never rfl (pi_list (pv 0)) (pg_tup rfl (pgs_cons (pg_name (i := 2) sc_L_births.nd rfl (Or.inl rfl)) (pgs_cons (pg_name (i := 3) sc_L_births.nd rfl (Or.inl rfl)) (pgs_cons (pg_name (i := 4) sc_L_births.nd rfl (Or.inl rfl)) (pgs_cons (pg_name (i := 5) sc_L_births.nd rfl (Or.inl rfl)) pgs_nil)))))
    (pss_one (ps_if (pt_cmpR op_eq (pv 2) pe_str (nomark _))
    (pss_one (ps_dput (hu_of hr) (pv 1) (pv 3) (pv 4) rfl))
    pss_nil)))
    (pss_one (ps_ret (pv 1))))), ?_⟩
  intro R hR
  have s0 := same_new (o := .dK []) hR
  have hlen := hL.len
  have hll := hL.rows.1
  refine ⟨_, rfl, L, rfl, ⟨logv, SqL.of (s0 _ _ hL.at_)⟩, for_list (K := K) (a := L) (xs := logv)
    (fun i σ G => ∃ v2 v3 v4 v5, σ = [some (.ref L), some (.ref R), v2, v3, v4, v5] ∧ Same H G ∧ G R = some (.dK (bkv (births (g.take i)))))
    ⟨_, _, _, _, rfl, s0, upd_same⟩ (fun i σ G _ h => ?_) ?_ ?_⟩
  · obtain ⟨_, _, _, _, _, s, _⟩ := h
    exact SqL.of (s _ _ hL.at_)
  · rintro i v σ G hi ⟨v2, v3, v4, v5, rfl, sG, gR⟩
    obtain ⟨r, a, hr', rfl, ha⟩ := hL.rows.get hi
    have ha1 := sG _ _ ha
    have hlt := lt_len hi
    refine ⟨a, _, rfl, SqT.of ha1, rfl, _, _, rfl, _, _, rfl, _, _, rfl, _, _, rfl, rfl, ?_⟩
    obtain ⟨ev, n, l, s⟩ := r
    cases ev
    case born =>
      refine ⟨_, rfl, rfl, _, rfl, ifT (show decide (V.str (Ev.str .born) = V.str "born") = true by decide +kernel) ?_⟩
      have lb := births_len_le (g.take i)
      have lb3 : (g.take i).length ≤ i := by rw [List.length_take]; omega
      refine ⟨_, rfl, _, rfl, _, rfl, R, _, rfl, DPut.k (k := .inl ((n : Nat) : Int)) gR (small9 (by rw [List.length_map]; omega)), ?_⟩
      refine ⟨_, _, _, _, rfl, same_grow sG hR, ?_⟩
      obtain ⟨L', t', G'⟩ := hL.good.pre (i + 1) (by omega)
      have nd := births_nd G'
      rw [upd_same, take_snoc hr', births_snoc] at *
      rw [putK_snoc]
      · show _ = some (HO.dK (bkv (births (g.take i) ++ [(n, l)])))
        unfold bkv
        rw [List.map_append]
        rfl
      · intro p hp z
        obtain ⟨p', hp', e⟩ := List.mem_map.mp hp
        rw [← e] at z
        have e2 : p'.1 = n := by injection z with z; omega
        have nd : ((births (g.take i) ++ [(n, l)]).map (·.1)).Nodup := nd
        rw [List.map_append] at nd
        have := (List.nodup_append.mp nd).2.2 p'.1 (List.mem_map_of_mem hp') n (by simp)
        exact this e2
    all_goals
      refine ⟨_, rfl, rfl, _, rfl, ifF (by first | exact (show decide (V.str (Ev.str .enter) = V.str "born") = false by decide +kernel) | exact (show decide (V.str (Ev.str .again) = V.str "born") = false by decide +kernel) | exact (show decide (V.str (Ev.str .back) = V.str "born") = false by decide +kernel)) ?_⟩
      refine ⟨_, _, _, _, rfl, sG, ?_⟩
      rw [take_snoc hr', births_snoc]
      simpa using gR
  rintro σ G ⟨v2, v3, v4, v5, rfl, sG, gR⟩
  rw [hll, List.take_of_length_le (Nat.le_refl _)] at gR
  exact ⟨_, rfl, q R G sG gR⟩
theorem ok_all_there (T : Top K mg) : Keeps P w K mg base CX0 2 d_L_all_there P_L_all_there spAllThere := by
  obtain ⟨fd, F, bd⟩ := T.f_L_all_there
  obtain ⟨_, G_L_births⟩ := ok_births (P := P) (w := w) (base := base) T
  obtain ⟨_, G_wants⟩ := ok_wants (P := P) (w := w) (base := base) T
  obtain ⟨_, G_idle⟩ := ok_idle (P := P) (w := w) (base := base) T
  refine keeps0 F bd sc_L_all_there (fun vs H Q E h => ?_) (fun cdv AA outer sh H vs Q E hr h => ?_)
  · obtain ⟨L, logv, g, Lb, t, rfl, _⟩ := h
    rfl
  obtain ⟨L, logv, g, Lb, t, rfl, hL, q⟩ := h
  refine ⟨_, (pss_cons (ps_set (i := 1) sc_L_all_there.nd rfl (Or.inl rfl) (pe_call G_L_births.ok (hr.mono (by decide)) rfl T.g_law_births G_L_births.kp G_L_births.bd .nil pass0 (pa_cons (pv 0) pa_nil)))
    (pss_cons (ps_set (i := 2) sc_L_all_there.nd rfl (Or.inl rfl) pe_dnewK)
    (pss_cons (ps_for PassesOwn.never rfl (pi_list (pe_call G_wants.ok (hr.mono (by decide)) rfl T.g_wants G_wants.kp G_wants.bd .nil pass0 (pa_cons (pv 0) pa_nil))) (pg_tup rfl (pgs_cons (pg_name (i := 3) sc_L_all_there.nd rfl (Or.inl rfl)) (pgs_cons (pg_name (i := 4) sc_L_all_there.nd rfl (Or.inl rfl)) (pgs_cons (pg_name (i := 5) sc_L_all_there.nd rfl (Or.inl rfl)) (pgs_cons (pg_name (i := 6) sc_L_all_there.nd rfl (Or.inl rfl)) (pgs_cons (pg_name (i := 7) sc_L_all_there.nd rfl (Or.inl rfl)) pgs_nil))))))
    (pss_cons (ps_if (PW.pt (pw_or (pt_cmp (pc_din (hu_of hr) (pv 3) (pv 2))) (pw_or1 (pt_cmpR op_ne (pe_dget2 (hu_of hr) (pv 1) (pv 3) pe_str ⟨rfl, rfl, rfl, rfl⟩) (pv 4) (nomark _)))))
    (pss_one (ps_ret pe_bl))
    pss_nil)
    (pss_one (ps_dput (hu_of hr) (pv 2) (pv 3) pe_bl rfl))))
    (pss_cons (ps_for PassesOwn.never rfl (pi_list (pe_call G_idle.ok (hr.mono (by decide)) rfl T.g_idle G_idle.kp G_idle.bd .nil pass0 (pa_cons (pv 0) pa_nil))) (pg_tup rfl (pgs_cons (pg_name (i := 3) sc_L_all_there.nd rfl (Or.inl rfl)) (pgs_cons (pg_name (i := 4) sc_L_all_there.nd rfl (Or.inl rfl)) pgs_nil)))
    (pss_cons (ps_if (PW.pt (pw_or (pt_cmp (pc_din (hu_of hr) (pv 3) (pv 2))) (pw_or1 (pt_cmpR op_ne (pe_dget2 (hu_of hr) (pv 1) (pv 3) pe_str ⟨rfl, rfl, rfl, rfl⟩) (pv 4) (nomark _)))))
    (pss_one (ps_ret pe_bl))
    pss_nil)
    (pss_one (ps_dput (hu_of hr) (pv 2) (pv 3) pe_bl rfl))))
    (pss_one (ps_ret (pe_cmpR op_eq (pe_callB call_lenD (by rfl) T.z_len PySem.boot_len (pa_cons (pv 2) pa_nil)) (pe_callB call_lenD (by rfl) T.z_len PySem.boot_len (pa_cons (pv 1) pa_nil)) (nomark _)))))))), ?_⟩
  have Fc := hL.good.fact
  have hlen := hL.len
  have lw := (W_len g).1
  have lb := births_len_le g
  have cnt := idle_count hL.good
  have ndb := births_nd hL.good
  have ee := ents_eq hL.good
  refine ⟨_, rfl, L, logv, g, Lb, t, rfl, hL, fun B H1 s1 gB => ?_⟩
  intro D0 hD0
  have s2 := same_new (o := .dK []) hD0
  refine ⟨_, rfl, L, logv, g, Lb, t, rfl, (hL.same s1).same s2, fun Rw rv H3 s3 gRw hrv => ?_⟩
  have s13 := s1.trans (s2.trans s3)
  have gB3 := (s2.trans s3) _ _ gB
  have gD3 := s3 _ _ (upd_same (H := H1) (a := D0) (o := HO.dK []))
  refine ⟨Rw, rfl, ⟨rv, SqL.of gRw⟩, for_list (K := K) (a := Rw) (xs := rv)
    (fun i σ G => ∃ v3 v4 v5 v6 v7, σ = [some (.ref L), some (.ref B), some (.ref D0), v3, v4, v5, v6, v7] ∧ (∀ b o, H3 b = some o → b ≠ D0 → G b = some o) ∧ G D0 = some (.dK (skv (((W g).1.map (·.n)).take i))))
    ⟨_, _, _, _, _, rfl, fun b o h _ => h, gD3⟩ (fun i σ G _ h => ?_) ?_ ?_⟩
  · obtain ⟨_, _, _, _, _, _, s, _⟩ := h
    exact SqL.of (s _ _ gRw (fun z => by rw [z, gD3] at gRw; cases gRw))
  · rintro i v σ G hi ⟨v3, v4, v5, v6, v7, rfl, sG, gD⟩
    have hlt : i < (W g).1.length := by rw [← hrv.1]; exact lt_len hi
    have hr' : (W g).1[i]? = some (W g).1[i] := List.getElem?_eq_getElem hlt
    obtain ⟨a, rfl, ha⟩ := hrv.2 i v _ hi hr'
    obtain ⟨r, er⟩ : ∃ r, r = (W g).1[i] := ⟨_, rfl⟩
    rw [← er] at ha hr'
    have ha1 := sG _ _ ha (fun z => by rw [z, gD3] at ha; cases ha)
    have gB4 := sG _ _ gB3 (fun z => by
      have := gB
      rw [z, hD0] at this
      cases this)
    have hm : ((W g).1.map (·.n))[i]? = some r.n := by rw [List.getElem?_map, hr']; rfl
    have nin : r.n ∉ ((W g).1.map (·.n)).take i := fun z => by
      obtain ⟨j, hj⟩ := List.mem_iff_getElem?.mp z
      have hj1 : j < i := by have := lt_len hj; rw [List.length_take] at this; omega
      rw [List.getElem?_take_of_lt hj1, List.getElem?_map] at hj
      cases hq : (W g).1[j]? with
      | none => rw [hq] at hj; cases hj
      | some q =>
        rw [hq] at hj
        have := nd_eq Fc.nd hq hr' (Option.some.inj hj)
        omega
    have hb : valV (bkv (births g)) (.inl ((r.n : Nat) : Int)) = some (.str r.l) := valV_bkv ndb (birth_in hL.good (Fc.lab r (List.mem_of_getElem? hr')))
    refine ⟨a, _, rfl, SqT.of ha1, rfl, _, _, rfl, _, _, rfl, _, _, rfl, _, _, rfl, _, _, rfl, rfl, ?_⟩
    refine ⟨_, rfl, _, rfl, D0, _, rfl, DGet.k (k := .inl ((r.n : Nat) : Int)) gD, _, rfl, ?_⟩
    rw [valV_skv]
    refine ifF (by simpa using nin) ?_
    refine ⟨_, rfl, B, rfl, .inl ⟨_, .inl gB4⟩, _, rfl, _, DGet.k (k := .inl ((r.n : Nat) : Int)) gB4, ?_⟩
    rw [hb]
    refine ⟨_, rfl, rfl, _, rfl, ifF (by simp) ?_⟩
    refine ⟨_, rfl, _, rfl, D0, _, rfl, DPut.k (k := .inl ((r.n : Nat) : Int)) gD (small9 (by rw [List.length_map, List.length_take, List.length_map]; omega)), ?_⟩
    refine ⟨_, _, _, _, _, rfl, fun b o e n => by rw [upd_ne n]; exact sG b o e n, ?_⟩
    rw [upd_same, take_snoc hm, putK_snoc]
    · unfold skv
      rw [List.map_append]
      rfl
    · intro p hp z
      obtain ⟨j, hj, e⟩ := List.mem_map.mp hp
      rw [← e] at z
      have : j = r.n := by injection z with z; omega
      exact nin (this ▸ hj)
  rintro σ G ⟨v3, v4, v5, v6, v7, rfl, sG, gD⟩
  rw [hrv.1, List.take_of_length_le (by rw [List.length_map]; exact Nat.le_refl _)] at gD
  have sHG : Same H G := fun b o e => by
    have n1 : b ≠ D0 := ne_of_none (s1 _ _ e) hD0
    exact sG b o (s13 _ _ e) n1
  have gBG := sG _ _ gB3 (fun z => by
    have := gB
    rw [z, hD0] at this
    cases this)
  refine ⟨_, rfl, L, logv, g, Lb, t, rfl, hL.same sHG, fun Ri fv H4 s4 gRi hfv => ?_⟩
  have gD4 := s4 _ _ gD
  have gB5 := s4 _ _ gBG
  have nDB : D0 ≠ B := fun z => by
    have := gB
    rw [← z, hD0] at this
    cases this
  have nid := idle_nd hL.good
  refine ⟨Ri, rfl, ⟨fv, SqL.of gRi⟩, for_list (K := K) (a := Ri) (xs := fv)
    (fun i σ G' => ∃ v3 v4 v5 v6 v7, σ = [some (.ref L), some (.ref B), some (.ref D0), v3, v4, v5, v6, v7] ∧ (∀ b o, H4 b = some o → b ≠ D0 → G' b = some o) ∧ G' D0 = some (.dK (skv ((W g).1.map (·.n) ++ ((idles g).map (·.1)).take i))))
    ⟨_, _, _, _, _, rfl, fun b o h _ => h, by rw [List.take_zero, List.append_nil]; exact gD4⟩ (fun i σ G' _ h => ?_) ?_ ?_⟩
  · obtain ⟨_, _, _, _, _, _, s, _⟩ := h
    exact SqL.of (s _ _ gRi (fun z => by rw [z, gD4] at gRi; cases gRi))
  · rintro i v σ G' hi ⟨v3, v4, v5, v6, v7, rfl, sG', gD'⟩
    have hlt : i < (idles g).length := by rw [← hfv.1]; exact lt_len hi
    have hr' : (idles g)[i]? = some (idles g)[i] := List.getElem?_eq_getElem hlt
    obtain ⟨a, rfl, ha⟩ := hfv.2 i v _ hi hr'
    obtain ⟨r, er⟩ : ∃ r, r = (idles g)[i] := ⟨_, rfl⟩
    rw [← er] at ha hr'
    have ha1 := sG' _ _ ha (fun z => by rw [z, gD4] at ha; cases ha)
    have gB6 := sG' _ _ gB5 nDB.symm
    have hm : ((idles g).map (·.1))[i]? = some r.1 := by rw [List.getElem?_map, hr']; rfl
    obtain ⟨hb1, hb2⟩ := idle_mem (List.mem_of_getElem? hr')
    rw [ee] at hb2
    have nin : r.1 ∉ (W g).1.map (·.n) ++ ((idles g).map (·.1)).take i := fun z => by
      rcases List.mem_append.mp z with z | z
      · exact hb2 z
      · obtain ⟨j, hj⟩ := List.mem_iff_getElem?.mp z
        have hj1 : j < i := by have := lt_len hj; rw [List.length_take] at this; omega
        rw [List.getElem?_take_of_lt hj1] at hj
        have := (List.pairwise_iff_getElem.mp nid) j i (lt_len hj) (lt_len hm) hj1
        rw [List.getElem?_eq_getElem (lt_len hj)] at hj
        rw [List.getElem?_eq_getElem (lt_len hm)] at hm
        exact this ((Option.some.inj hj).trans (Option.some.inj hm).symm)
    have hb : valV (bkv (births g)) (.inl ((r.1 : Nat) : Int)) = some (.str r.2) := valV_bkv ndb hb1
    refine ⟨a, _, rfl, SqT.of ha1, rfl, _, _, rfl, _, _, rfl, rfl, ?_⟩
    refine ⟨_, rfl, _, rfl, D0, _, rfl, DGet.k (k := .inl ((r.1 : Nat) : Int)) gD', _, rfl, ?_⟩
    rw [valV_skv]
    refine ifF (by simpa using nin) ?_
    refine ⟨_, rfl, B, rfl, .inl ⟨_, .inl gB6⟩, _, rfl, _, DGet.k (k := .inl ((r.1 : Nat) : Int)) gB6, ?_⟩
    rw [hb]
    refine ⟨_, rfl, rfl, _, rfl, ifF (by simp) ?_⟩
    refine ⟨_, rfl, _, rfl, D0, _, rfl, DPut.k (k := .inl ((r.1 : Nat) : Int)) gD' (small9 (by rw [List.length_map, List.length_append, List.length_take, List.length_map, List.length_map]; omega)), ?_⟩
    refine ⟨_, _, _, _, _, rfl, fun b o e n => by rw [upd_ne n]; exact sG' b o e n, ?_⟩
    rw [upd_same, take_snoc hm, ← List.append_assoc, putK_snoc]
    · rw [skv_snoc]
    · intro p hp z
      obtain ⟨j, hj, e⟩ := List.mem_map.mp hp
      rw [← e] at z
      have : j = r.1 := by injection z with z; omega
      exact nin (this ▸ hj)
  rintro σ G' ⟨v3, v4, v5, v6, v7, rfl, sG', gD'⟩
  rw [hfv.1, List.take_of_length_le (by rw [List.length_map]; exact Nat.le_refl _)] at gD'
  have sfin : Same H G' := fun b o e => sG' b o (s4 _ _ (sHG _ _ e)) (ne_of_none (s1 _ _ e) hD0)
  refine ⟨_, rfl, D0, _, rfl, gD', _, rfl, B, _, rfl, sG' _ _ gB5 nDB.symm, rfl, ?_⟩
  have e : decide (V.int (((skv ((W g).1.map (·.n) ++ (idles g).map (·.1))).length : Nat) : Int) = V.int (((bkv (births g)).length : Nat) : Int)) = true := by
    rw [List.length_map, List.length_append, List.length_map, List.length_map, List.length_map, cnt]
    simp
  rw [e]
  exact q G' sfin
end
end W83

namespace W83
open PySem PySem.Spec PyProof.Rows L2
abbrev N_L_within : List Str := ["_law_row", "_law_rows", "_law_other"]
abbrev P_L_within : List Str := ["_law_row", "_law_rows"]
theorem sc_L_within : FnScope N_L_within P_L_within d_L_within.scope := ⟨rfl, rfl, rfl, by decide +kernel, rfl, by decide +kernel, by decide +kernel⟩

def spWithin : Sp := fun vs H Q _ => ∃ (a B : Addr) (bv : List V) (rows : List WRow) (way : List Nat) (Lb : List Str) (t i : Nat) (r : WRow), vs = [.ref a, .ref B] ∧ H a = some (.tup (wrowV r)) ∧ H B = some (.lst bv) ∧ WRowsAt H bv (rows.take i) ∧ rows[i]? = some r ∧ Fact rows way Lb t ∧ Q (.bl true) H
section
variable {P : Program} {w : World} {K : PySem.W.Frag} {mg : Str → Option Value} {base : Heap}
theorem ok_within (T : Top K mg) : Keeps P w K mg base CX0 1 d_L_within P_L_within spWithin := by
  obtain ⟨fd, F, bd⟩ := T.f_L_within
  refine keeps0 F bd sc_L_within (fun vs H Q E h => ?_) (fun cdv AA outer sh H vs Q E hr h => ?_)
  · obtain ⟨a, B, bv, rows, way, Lb, t, i, r, rfl, _⟩ := h
    rfl
  obtain ⟨a, B, bv, rows, way, Lb, t, i, r, rfl, ha, hB, hbv, hri, Fc, q⟩ := h
  refine ⟨_, (pss_cons (ps_for PassesOwn.never rfl (pi_list (pv 1)) (pg_name (i := 2) sc_L_within.nd rfl (Or.inl rfl))
    (pss_one (ps_if (pt_cmpR op_eq (pe_ix ix_tup (pv 2) pe_int (fun _ _ => rfl)) (pe_ix ix_tup (pv 0) pe_int (fun _ _ => rfl)) (nomark _))
    (pss_cons (ps_if (pt_cmpR op_ge (pe_ix ix_tup (pv 2) pe_int (fun _ _ => rfl)) (pe_ix ix_tup (pv 0) pe_int (fun _ _ => rfl)) (nomark _))
    (pss_one (ps_ret pe_bl))
    pss_nil)
    (pss_one (ps_ret (pe_or (pe_cmpR op_isN (pe_ix ix_tup (pv 2) pe_int (fun _ _ => rfl)) pe_non (nomark _)) (pe_one (pe_and (pe_cmpR op_notN (pe_ix ix_tup (pv 0) pe_int (fun _ _ => rfl)) pe_non (nomark _)) (pe_one (pe_chain op_le op_le (pe_ix ix_tup (pv 0) pe_int (fun _ _ => rfl)) (pe_ix ix_tup (pv 0) pe_int (fun _ _ => rfl)) (pe_ix ix_tup (pv 2) pe_int (fun _ _ => rfl))))))))))
    pss_nil)))
    (pss_one (ps_ret (pe_and (pe_cmpR op_isN (pe_ix ix_tup (pv 0) pe_int (fun _ _ => rfl)) pe_non (nomark _)) (pe_one (pe_or (pe_cmpR op_isN (pe_ix ix_tup (pv 0) pe_int (fun _ _ => rfl)) pe_non (nomark _)) (pe_one (pe_cmpR op_le (pe_ix ix_tup (pv 0) pe_int (fun _ _ => rfl)) (pe_ix ix_tup (pv 0) pe_int (fun _ _ => rfl)) (nomark _))))))))), ?_⟩
  have hdn := Fc.dn r (List.mem_of_getElem? hri)
  have hpar := Fc.par i r hri
  obtain ⟨rn, rl, rby, rb, rd⟩ := r
  simp only at hdn hpar
  cases rby with
  | none =>
    refine ⟨_, rfl, B, rfl, ⟨bv, SqL.of hB⟩, for_list (K := K) (a := B) (xs := bv) (fun j σ G => G = H ∧ ∃ v2, σ = [some (.ref a), some (.ref B), v2]) ⟨rfl, _, rfl⟩ (fun j σ G _ h => by rw [h.1]; exact SqL.of hB) ?_ ?_⟩
    · rintro j v σ G hj ⟨rfl, v2, rfl⟩
      have hlt : j < (rows.take i).length := by rw [← hbv.1]; exact lt_len hj
      obtain ⟨c, rfl, hc⟩ := hbv.2 j v _ hj (List.getElem?_eq_getElem hlt)
      refine ⟨_, rfl, c, _, _, _, rfl, rfl, SqT.of hc, rfl, ⟨_, rfl, a, _, _, _, rfl, rfl, SqT.of ha, rfl, rfl, _, rfl, ifF rfl ?_⟩⟩
      exact ⟨rfl, _, rfl⟩
    · rintro σ G ⟨rfl, v2, rfl⟩
      refine ⟨_, rfl, a, _, _, _, rfl, rfl, SqT.of ha, rfl, rfl, _, rfl, ifT rfl ?_⟩
      cases rd with
      | none => exact ⟨_, rfl, a, _, _, _, rfl, rfl, SqT.of ha, rfl, rfl, _, rfl, ifT rfl q⟩
      | some e =>
        obtain ⟨h1, h2⟩ := hdn e rfl
        refine ⟨_, rfl, a, _, _, _, rfl, rfl, SqT.of ha, rfl, rfl, _, rfl, ifF rfl ?_⟩
        refine ⟨_, rfl, a, _, _, _, rfl, rfl, SqT.of ha, rfl, ⟨_, rfl, a, _, _, _, rfl, rfl, SqT.of ha, rfl, _, _, rfl, rfl, ?_⟩⟩
        have q' : Q (.bl (decide (((rb : Nat) : Int) ≤ ((e : Nat) : Int)))) G := by
          rw [show decide (((rb : Nat) : Int) ≤ ((e : Nat) : Int)) = true from decide_eq_true (by omega)]
          exact q
        exact q'
  | some k =>
    rcases hpar with h | ⟨j0, q0, hj0, hq0, e0, hd0⟩
    · cases h
    have ek : k = q0.n := Option.some.inj e0
    have hb0 := Fc.begun j0 i q0 _ hj0 hq0 hri
    simp only at hb0
    refine ⟨_, rfl, B, rfl, ⟨bv, SqL.of hB⟩, for_list (K := K) (a := B) (xs := bv) (fun j σ G => j ≤ j0 ∧ G = H ∧ ∃ v2, σ = [some (.ref a), some (.ref B), v2]) ⟨Nat.zero_le _, rfl, _, rfl⟩ (fun j σ G _ h => by rw [h.2.1]; exact SqL.of hB) ?_ ?_⟩
    · rintro j v σ G hj ⟨hle, rfl, v2, rfl⟩
      have hlt : j < (rows.take i).length := by rw [← hbv.1]; exact lt_len hj
      obtain ⟨x, ex⟩ : ∃ x, (rows.take i)[j]? = some x := ⟨_, List.getElem?_eq_getElem hlt⟩
      obtain ⟨c, rfl, hc⟩ := hbv.2 j v x hj ex
      have ex2 : rows[j]? = some x := by
        rw [List.getElem?_take] at ex
        split at ex
        · exact ex
        · cases ex
      refine ⟨_, rfl, c, _, _, _, rfl, rfl, SqT.of hc, rfl, ⟨_, rfl, a, _, _, _, rfl, rfl, SqT.of ha, rfl, rfl, _, rfl, ?_⟩⟩
      by_cases ej : j = j0
      · subst ej
        rw [hq0] at ex2
        cases ex2
        refine ifT (by rw [ek]; exact decide_eq_true rfl) ?_
        refine ⟨_, rfl, c, _, _, _, rfl, rfl, SqT.of hc, rfl, ⟨_, rfl, a, _, _, _, rfl, rfl, SqT.of ha, rfl, _, _, rfl, rfl, _, rfl, ifF ?_ ?_⟩⟩
        · exact decide_eq_false (by show ¬ (((q0.b : Nat) : Int) ≥ ((rb : Nat) : Int)); omega)
        obtain ⟨xn, xl, xby, xb, xd⟩ := q0
        cases xd with
        | none => exact ⟨_, rfl, c, _, _, _, rfl, rfl, SqT.of hc, rfl, rfl, _, rfl, ifT rfl q⟩
        | some e =>
          obtain ⟨e', he1, he2⟩ := hd0 e rfl
          subst he1
          obtain ⟨h1, h2⟩ := hdn e' rfl
          refine ⟨_, rfl, c, _, _, _, rfl, rfl, SqT.of hc, rfl, rfl, _, rfl, ifF rfl ?_⟩
          refine ⟨_, rfl, a, _, _, _, rfl, rfl, SqT.of ha, rfl, rfl, _, rfl, ifT rfl ?_⟩
          refine ⟨_, rfl, a, _, _, _, rfl, rfl, SqT.of ha, rfl, ⟨_, rfl, a, _, _, _, rfl, rfl, SqT.of ha, rfl, _, _, rfl, rfl, _, rfl, ifT (decide_eq_true (by show ((rb : Nat) : Int) ≤ ((e' : Nat) : Int); omega)) ?_⟩⟩
          refine ⟨_, rfl, c, _, _, _, rfl, rfl, SqT.of hc, rfl, _, _, rfl, rfl, ?_⟩
          have q' : Q (.bl (decide (((e' : Nat) : Int) ≤ ((e : Nat) : Int)))) G := by
            rw [show decide (((e' : Nat) : Int) ≤ ((e : Nat) : Int)) = true from decide_eq_true (by omega)]
            exact q
          exact q'
      · refine ifF (decide_eq_false fun z => ej ?_) ⟨by omega, rfl, _, rfl⟩
        have z : ((x.n : Nat) : Int) = ((k : Nat) : Int) := by injection z
        exact nd_eq Fc.nd ex2 hq0 (by omega)
    · rintro σ G ⟨hle, rfl, v2, rfl⟩
      have l1 := hbv.1
      rw [List.length_take] at l1
      have := lt_len hq0
      have := lt_len hri
      omega
end
end W83

namespace W83
open PySem PySem.Spec PyProof.Rows L2
abbrev N_L_spans : List Str := ["_law_log", "_law_rows", "_law_before", "_law_row", "_law_due"]
abbrev P_L_spans : List Str := ["_law_log"]
theorem sc_L_spans : FnScope N_L_spans P_L_spans d_L_spans.scope := ⟨rfl, rfl, rfl, by decide +kernel, rfl, by decide +kernel, by decide +kernel⟩

def spSpans : Sp := fun vs H Q _ => ∃ (L : Addr) (logv : List V) (g : List LRow) (Lb : List Str) (t : Nat), vs = [.ref L] ∧ LogAt H L logv g Lb t ∧ ∀ (H' : Hp), Same H H' → Q (.bl true) H'
abbrev intsD (l : List Nat) : List PyData := l.map fun k => PyData.int ((k : Nat) : Int)
theorem dp_ints {K : PySem.W.Frag} {H : Hp} : ∀ (l : List Nat), DpAll K H (intsV l) (intsD l)
  | [] => .nil
  | k :: l => .cons (.int _) (dp_ints l)
theorem lay_ints : ∀ (l : List Nat), PyData.canLayAll0 (intsD l) = true
  | [] => rfl
  | k :: l => by
    show (PyData.canLay0 _ && PyData.canLayAll0 (intsD l)) = true
    rw [lay_ints l]
    rfl
theorem depth_ints : ∀ (l : List Nat), PyData.depthAll (intsD l) ≤ 1
  | [] => by simp [PyData.depthAll]
  | k :: l => by
    have h1 := depth_ints l
    have e : PyData.depthAll (intsD (k :: l)) = max (PyData.depth (.int ((k : Nat) : Int))) (PyData.depthAll (intsD l)) := by
      rw [show intsD (k :: l) = .int ((k : Nat) : Int) :: intsD l from rfl, PyData.depthAll]
    have : PyData.depth (PyData.int ((k : Nat) : Int)) ≤ 1 := by simp [PyData.depth]
    omega
theorem shaped_ints (l : List Nat) : SeqAt.shaped (.list (intsD l)) = true := by
  have h1 := depth_ints l
  have h2 : PyData.depth (.list (intsD l)) ≤ 64 := by
    simp only [PyData.depth]
    omega
  show (PyData.canLay0 (.list (intsD l)) && decide (PyData.depth (.list (intsD l)) ≤ 64)) = true
  rw [Bool.and_eq_true]
  exact ⟨by rw [PyData.canLay0]; exact lay_ints l, decide_eq_true h2⟩
theorem eqv_ints (l : List Nat) : PyData.eqv (.list (intsD l)) (.list (intsD l)) = true := SeqAt.eqv_refl _ (by rw [PyData.canLay0]; exact lay_ints l)
theorem cutV_mem {xs : List V} {lo hi : Option Int} {v : V} (h : v ∈ cutV xs lo hi) : v ∈ xs := List.mem_of_mem_drop (List.mem_of_mem_take h)
section
variable {P : Program} {w : World} {K : PySem.W.Frag} {mg : Str → Option Value} {base : Heap}
theorem ok_spans (T : Top K mg) : Keeps P w K mg base CX0 3 d_L_spans P_L_spans spSpans := by
  obtain ⟨fd, F, bd⟩ := T.f_L_spans
  obtain ⟨_, G_wants⟩ := ok_wants (P := P) (w := w) (base := base) T
  obtain ⟨_, G_why⟩ := ok_why (P := P) (w := w) (base := base) T
  obtain ⟨_, G_L_within⟩ := ok_within (P := P) (w := w) (base := base) T
  refine keeps0 F bd sc_L_spans (fun vs H Q E h => ?_) (fun cdv AA outer sh H vs Q E hr h => ?_)
  · obtain ⟨L, logv, g, Lb, t, rfl, _⟩ := h
    rfl
  obtain ⟨L, logv, g, Lb, t, rfl, hL, q⟩ := h
  refine ⟨_, (pss_cons (ps_set (i := 1) sc_L_spans.nd rfl (Or.inl rfl) (pe_call G_wants.ok (hr.mono (by decide)) rfl T.g_wants G_wants.kp G_wants.bd .nil pass0 (pa_cons (pv 0) pa_nil)))
    (pss_cons (ps_set (i := 2) sc_L_spans.nd rfl (Or.inl rfl) (pe_lst pa_nil))
    (pss_cons (ps_for PassesOwn.never rfl (pi_list (pv 1)) (pg_name (i := 3) sc_L_spans.nd rfl (Or.inl rfl))
    (pss_cons (ps_if (pt_not (pt_val (pe_call G_L_within.ok (hr.mono (by decide)) rfl T.g_law_within G_L_within.kp G_L_within.bd .nil pass0 (pa_cons (pv 3) (pa_cons (pv 2) pa_nil)))))
    (pss_one (ps_ret pe_bl))
    pss_nil)
    (pss_cons (ps_if (PW.pt (pw_and (pt_cmpR op_gt (pe_callB call_len_seq (by rfl) T.z_len PySem.boot_len (pa_cons (pv 2) pa_nil)) pe_int (nomark _)) (pw_and1 (pt_cmpR op_ge (pe_ix ix_tup (pe_ix ix_list (pv 2) (pe_un un_neg pe_int) (fun _ _ => rfl)) pe_int (fun _ _ => rfl)) (pe_ix ix_tup (pv 3) pe_int (fun _ _ => rfl)) (nomark _)))))
    (pss_one (ps_ret pe_bl))
    pss_nil)
    (pss_one (ps_expr (pe_bm PySem.F.plainAttrs_list PySem.F.slot_list_append PySem.F.type_list_append mt_append (pv 2) (pa_cons (pv 3) pa_nil)))))))
    (pss_cons (ps_for PassesOwn.never rfl (pi_list (pe_op op_cat (pe_slice sl_list (pv 1) po_none (po_some pe_int)) (pe_slice sl_list (pv 1) (po_some (pe_un un_neg pe_int)) po_none))) (pg_name (i := 3) sc_L_spans.nd rfl (Or.inl rfl))
    (pss_cons (ps_set (i := 4) sc_L_spans.nd rfl (Or.inl rfl) (pe_lst (pa_cons (pe_ix ix_tup (pv 3) pe_int (fun _ _ => rfl)) pa_nil)))
    (pss_cons (ps_if (pt_cmpR op_notN (pe_ix ix_tup (pv 3) pe_int (fun _ _ => rfl)) pe_non (nomark _))
    (pss_one (ps_set (i := 4) sc_L_spans.nd rfl (Or.inl rfl) (pe_op op_cat (pv 4) (pe_call G_why.ok (hr.mono (by decide)) rfl T.g_why G_why.kp G_why.bd .nil pass0 (pa_cons (pv 0) (pa_cons (pe_ix ix_tup (pv 3) pe_int (fun _ _ => rfl)) pa_nil))))))
    pss_nil)
    (pss_one (ps_if (pt_cmpR (op_neD hr.units) (pe_call G_why.ok (hr.mono (by decide)) rfl T.g_why G_why.kp G_why.bd .nil pass0 (pa_cons (pv 0) (pa_cons (pe_ix ix_tup (pv 3) pe_int (fun _ _ => rfl)) pa_nil))) (pv 4) (nomark _))
    (pss_one (ps_ret pe_bl))
    pss_nil)))))
    (pss_one (ps_ret pe_bl)))))), ?_⟩
  have Fc := hL.good.fact
  have hlen := hL.len
  have lw := (W_len g).1
  refine ⟨_, rfl, L, logv, g, Lb, t, rfl, hL, fun Rw rv H1 s1 gRw hrv => ?_⟩
  refine ⟨small50 (by simp), fun B hB => ?_⟩
  have s2 := same_new (o := .lst []) hB
  refine ⟨_, rfl, Rw, rfl, ⟨rv, SqL.of (s2 _ _ gRw)⟩, for_list (K := K) (a := Rw) (xs := rv)
    (fun i σ G => ∃ v3 v4, σ = [some (.ref L), some (.ref Rw), some (.ref B), v3, v4] ∧ Same H1 G ∧ G B = some (.lst (rv.take i)))
    ⟨_, _, rfl, s2, upd_same⟩ (fun i σ G _ h => ?_) ?_ ?_⟩
  · obtain ⟨_, _, _, s, _⟩ := h
    exact SqL.of (s _ _ gRw)
  · rintro i v σ G hi ⟨v3, v4, rfl, sG, gB⟩
    have hlt : i < (W g).1.length := by rw [← hrv.1]; exact lt_len hi
    obtain ⟨r, hr'⟩ : ∃ r, (W g).1[i]? = some r := ⟨_, List.getElem?_eq_getElem hlt⟩
    obtain ⟨a, rfl, ha⟩ := hrv.2 i v r hi hr'
    have kG := sameTupK sG
    have ha1 := kG _ _ ha
    have hbv : WRowsAt G (rv.take i) ((W g).1.take i) := by
      refine ⟨by rw [List.length_take, List.length_take, hrv.1], fun j u x h1 h2 => ?_⟩
      rw [List.getElem?_take] at h1 h2
      split at h1
      · rename_i hj
        rw [if_pos hj] at h2
        exact (hrv.2 j u x h1 h2).keep kG
      · cases h1
    refine ⟨_, rfl, _, rfl, a, B, rv.take i, (W g).1, (W g).2, Lb, t, i, r, rfl, ha1, gB, hbv, hr', Fc, _, rfl, ifF rfl ?_⟩
    have fin : ∃ v3' v4', [some (V.ref L), some (V.ref Rw), some (V.ref B), some (V.ref a), v4] = [some (.ref L), some (.ref Rw), some (.ref B), v3', v4'] ∧ Same H1 (upd G B (.lst (rv.take i ++ [.ref a]))) ∧ (upd G B (.lst (rv.take i ++ [.ref a]))) B = some (.lst (rv.take (i + 1))) :=
      ⟨_, _, rfl, same_grow sG hB, by rw [upd_same, take_snoc hi]⟩
    refine ⟨_, rfl, B, _, rfl, .inl (SqL.of gB), _, _, rfl, rfl, _, rfl, ?_⟩
    cases i with
    | zero =>
      refine ifF (decide_eq_false (by rw [List.take_zero]; decide)) (ifF rfl ?_)
      exact ⟨_, rfl, .inl ⟨rfl, _, SqL.of gB⟩, _, rfl, B, _, _, rfl, rfl, gB, small9 (by rw [List.length_take]; omega), fin⟩
    | succ j =>
      have hj := List.getElem?_eq_getElem (show j < rv.length by rw [hrv.1]; omega)
      obtain ⟨x, hx⟩ : ∃ x, (W g).1[j]? = some x := ⟨_, List.getElem?_eq_getElem (by omega)⟩
      obtain ⟨c, ec, hc⟩ := hrv.2 j _ x hj hx
      have hat : atI (rv.take (j + 1)) (-1) = some (.ref c) := by
        rw [take_snoc hj, ec]
        exact atI_last _ _
      have hb := Fc.begun j (j + 1) x r (by omega) hx hr'
      refine ifT (decide_eq_true (by have : (rv.take (j + 1)).length = j + 1 := by rw [List.length_take, hrv.1]; omega
                                     rw [this]; omega)) ?_
      refine ⟨_, rfl, _, rfl, B, _, _, _, rfl, rfl, SqL.of gB, hat, c, _, _, _, rfl, rfl, SqT.of (kG _ _ hc), rfl, ⟨_, rfl, a, _, _, _, rfl, rfl, SqT.of ha1, rfl, _, _, rfl, rfl, _, rfl, ifF (decide_eq_false (by show ¬ (((x.b : Nat) : Int) ≥ ((r.b : Nat) : Int)); omega)) ?_⟩⟩
      exact ⟨_, rfl, .inl ⟨rfl, _, SqL.of gB⟩, _, rfl, B, _, _, rfl, rfl, gB, small9 (by rw [List.length_take, hrv.1]; omega), fin⟩
  rintro σ G ⟨v3, v4, rfl, sG, gB⟩
  have gRw2 := sG _ _ gRw
  have sHG := s1.trans sG
  have kG := sameTupK sG
  -- the rows at the ends
  refine ⟨_, rfl, _, rfl, Rw, rv, rfl, SqL.of gRw2, fun p1 hp1 => ?_⟩
  have e1 := same_new (o := .lst (cutV rv none (some 2))) hp1
  refine ⟨_, rfl, ⟨_, rfl, _, rfl, Rw, rv, rfl, SqL.of (e1 _ _ gRw2), fun p2 hp2 => ?_⟩⟩
  have e2 := same_new (o := .lst (cutV rv (some (-2)) none)) hp2
  have l1 := cutV_length rv none (some 2)
  have l2 := cutV_length rv (some (-2)) none
  have lrv := hrv.1
  refine ⟨p1, p2, _, _, rfl, rfl, e2 _ _ upd_same, upd_same, by rw [sizeLine_eq]; omega, fun p3 hp3 => ?_⟩
  have e3 := same_new (o := .lst (cutV rv none (some 2) ++ cutV rv (some (-2)) none)) hp3
  have s3 := e1.trans (e2.trans e3)
  have mem : ∀ v ∈ cutV rv none (some 2) ++ cutV rv (some (-2)) none, ∃ r ∈ (W g).1, WRowAt H1 v r := fun v hv => by
    have hv : v ∈ rv := by
      rcases List.mem_append.mp hv with h | h
      · exact cutV_mem h
      · exact cutV_mem h
    obtain ⟨j, hj⟩ := List.mem_iff_getElem?.mp hv
    have hlt : j < (W g).1.length := by rw [← hrv.1]; exact lt_len hj
    exact ⟨_, List.getElem_mem hlt, hrv.2 j v _ hj (List.getElem?_eq_getElem hlt)⟩
  refine ⟨p3, rfl, ⟨_, SqL.of upd_same⟩, for_list (K := K) (a := p3) (xs := cutV rv none (some 2) ++ cutV rv (some (-2)) none)
    (fun i σ G' => ∃ v3 v4, σ = [some (.ref L), some (.ref Rw), some (.ref B), v3, v4] ∧ Same H1 G' ∧ G' p3 = some (.lst (cutV rv none (some 2) ++ cutV rv (some (-2)) none)))
    ⟨_, _, rfl, sG.trans s3, upd_same⟩ (fun i σ G' _ h => ?_) ?_ ?_⟩
  · obtain ⟨_, _, _, _, h⟩ := h
    exact SqL.of h
  · rintro i v σ G' hi ⟨v3, v4, rfl, sG', g3⟩
    obtain ⟨r, hr', a, rfl, ha⟩ := mem v (List.mem_of_getElem? hi)
    have ha1 := sG' _ _ ha
    have sH := s1.trans sG'
    refine ⟨_, rfl, a, _, _, _, rfl, rfl, SqT.of ha1, rfl, small50 (by simp), fun D0 hD0 => ?_⟩
    have e4 := same_new (o := .lst [.int ((r.n : Nat) : Int)]) hD0
    have hL4 := (hL.same sH).same e4
    have ha4 := e4 _ _ ha1
    refine ⟨_, rfl, a, _, _, _, rfl, rfl, SqT.of ha4, rfl, rfl, ?_⟩
    rw [show decide (optV r.by_ = .non) = r.by_.isNone from optV_isN r.by_]
    obtain ⟨i0, hi0⟩ := List.mem_iff_getElem?.mp hr'
    have hpar := Fc.par i0 r hi0
    refine ⟨_, rfl, ?_⟩
    cases hby : r.by_ with
    | none =>
      refine ifF rfl ?_
      refine ⟨_, rfl, ⟨_, rfl, a, _, _, _, rfl, rfl, SqT.of ha4, rfl, L, logv, g, Lb, t, r, rfl, hL4, hr', fun R2 l2 H5 s5 g5 ch => ?_⟩⟩
      have el : l2 = [r.n] := by
        have c2 : Chain (W g).1 (some r.n) [r.n] := Chain.cons hr' (by rw [hby]; exact Chain.nil)
        exact Chain.uniq Fc.nd ch c2
      subst el
      refine ⟨_, rfl, .list (intsD [r.n]), .list (intsD [r.n]), .lst (SqL.of g5) (dp_ints [r.n]), .lst (SqL.of (s5 _ _ upd_same)) (dp_ints [r.n]), shaped_ints _, shaped_ints _, _, rfl, ?_⟩
      rw [eqv_ints]
      refine ifF rfl ?_
      exact ⟨_, _, rfl, sG'.trans (e4.trans s5), s5 _ _ (e4 _ _ g3)⟩
    | some k =>
      rw [hby] at hpar
      refine ifT rfl ?_
      rcases hpar with h | ⟨j0, q0, hj0, hq0, e0, _⟩
      · cases h
      have ek : k = q0.n := Option.some.inj e0
      have hvk : optV r.by_ = .int ((q0.n : Nat) : Int) := by rw [hby, ek]; rfl
      refine ⟨_, rfl, _, rfl, _, rfl, a, _, _, _, rfl, rfl, SqT.of ha4, rfl, ?_⟩
      refine ⟨L, logv, g, Lb, t, q0, by rw [hvk]; rfl, hL4, List.mem_of_getElem? hq0, fun R1 l1 H5 s5 g5 ch1 => ?_⟩
      have ll1 : l1.length ≤ 50001 := by
        obtain ⟨l', hl', ch'⟩ := Chain.make Fc (j0 + 1) j0 q0 (by omega) hq0
        rw [Chain.uniq Fc.nd ch1 ch']
        have := lt_len hq0
        omega
      refine ⟨D0, R1, _, _, rfl, rfl, s5 _ _ upd_same, g5, by rw [sizeLine_eq, List.length_map]; simp; omega, fun D1 hD1 => ?_⟩
      have e6 := same_new (o := .lst ([.int ((r.n : Nat) : Int)] ++ intsV l1)) hD1
      have hL6 := (hL4.same s5).same e6
      have ha6 := e6 _ _ (s5 _ _ ha4)
      refine ⟨_, rfl, ⟨_, rfl, a, _, _, _, rfl, rfl, SqT.of ha6, rfl, L, logv, g, Lb, t, r, rfl, hL6, hr', fun R2 l2 H7 s7 g7 ch => ?_⟩⟩
      have el : l2 = r.n :: l1 := by
        have c2 : Chain (W g).1 (some r.n) (r.n :: l1) := Chain.cons hr' (by rw [hby, ek]; exact ch1)
        exact Chain.uniq Fc.nd ch c2
      subst el
      refine ⟨_, rfl, .list (intsD (r.n :: l1)), .list (intsD (r.n :: l1)), .lst (SqL.of g7) (dp_ints _), .lst (SqL.of (s7 _ _ upd_same)) (dp_ints (r.n :: l1)), shaped_ints _, shaped_ints _, _, rfl, ?_⟩
      rw [eqv_ints]
      refine ifF rfl ?_
      exact ⟨_, _, rfl, sG'.trans (e4.trans (s5.trans (e6.trans s7))), s7 _ _ (e6 _ _ (s5 _ _ (e4 _ _ g3)))⟩
  · rintro σ G' ⟨v3, v4, rfl, sG', g3⟩
    exact q G' (s1.trans sG')
end
end W83

namespace W83
open PySem PySem.Spec PyProof.Rows L2
abbrev N_L_open : List Str := ["_law_rows", "_law_word", "_law_what", "_law_left", "_law_row", "_law_by", "_law_labels"]
abbrev P_L_open : List Str := ["_law_rows", "_law_word", "_law_what"]
theorem sc_L_open : FnScope N_L_open P_L_open d_L_open.scope := ⟨rfl, rfl, rfl, by decide +kernel, rfl, by decide +kernel, by decide +kernel⟩

def spOpen : Sp := fun vs H Q _ => ∃ (Rw : Addr) (rv : List V) (g : List LRow) (Lb : List Str) (t : Nat) (word : Str) (wv : V), vs = [.ref Rw, .str word, wv] ∧ H Rw = some (.lst rv) ∧ WRowsAt H rv (W g).1 ∧ Good g Lb t ∧ g.length ≤ 50000 ∧ (word = "told" → nums (W g) = []) ∧
  (word = "ring" → ∃ (q : Addr) (ls : List Str) (i : Nat), wv = .ref q ∧ H q = some (.tup (ls.map V.str)) ∧ i < (nums (W g)).length ∧ ls.map some = ((nums (W g)).drop i).map (fun k => Lb[k]?)) ∧ ∀ (H' : Hp), Same H H' → Q (.bl true) H'
theorem scal_optV (a b : Option Nat) : scal (optV a) (optV b) = true := by
  cases a <;> cases b <;> rfl
theorem nums_eq (st : WS) : nums st = (st.2.filterMap fun p => st.1[p]?).map (·.n) := by
  unfold nums
  rw [List.map_filterMap]
theorem paired_strs {K : PySem.W.Frag} {H : Hp} : ∀ (ls : List Str), PySem.Paired (EqV K H 2) (ls.map V.str) (ls.map V.str)
  | [] => .nil
  | x :: ls => .cons (.inl ⟨rfl, rfl⟩) (paired_strs ls)
section
variable {P : Program} {w : World} {K : PySem.W.Frag} {mg : Str → Option Value} {base : Heap}
theorem ok_open (T : Top K mg) : Keeps P w K mg base CX0 1 d_L_open P_L_open spOpen := by
  obtain ⟨fd, F, bd⟩ := T.f_L_open
  refine keeps0 F bd sc_L_open (fun vs H Q E h => ?_) (fun cdv AA outer sh H vs Q E hr h => ?_)
  · obtain ⟨Rw, rv, g, Lb, t, word, wv, rfl, _⟩ := h
    rfl
  obtain ⟨Rw, rv, g, Lb, t, word, wv, rfl, hRw, hrv, Gd, hlen, htold, hring, q⟩ := h
  refine ⟨_, (pss_cons (ps_setLc (i := 3) (own := [("_law_row", 4)]) (g := gName 4) rfl sc_L_open.nd rfl rfl (sw_true rfl rfl rfl (by decide +kernel)) (pi_list (pv 0)) (blkOk_by (own := [("_law_row", 4)]) (N := N_L_open) (sc := d_L_open.scope) (by decide +kernel)) (fun _ _ _ _ _ => (pg_name (i := 4) sc_L_open.nd rfl (Or.inl rfl))) (fun _ _ _ _ _ => (pts_one (pt_cmpR op_isN (pe_ix (show IxR _ (rIxT K) from ix_tup) (pv 4) pe_int (fun _ _ => rfl)) pe_non (nomark _)))) (fun _ _ _ _ _ => (pv 4)))
    (pss_cons (ps_set (i := 5) sc_L_open.nd rfl (Or.inl rfl) pe_non)
    (pss_cons (ps_for PassesOwn.never rfl (pi_list (pv 3)) (pg_name (i := 4) sc_L_open.nd rfl (Or.inl rfl))
    (pss_cons (ps_if (pt_cmpR op_ne (pe_ix ix_tup (pv 4) pe_int (fun _ _ => rfl)) (pv 5) (nomark _))
    (pss_one (ps_ret pe_bl))
    pss_nil)
    (pss_one (ps_set (i := 5) sc_L_open.nd rfl (Or.inl rfl) (pe_ix ix_tup (pv 4) pe_int (fun _ _ => rfl))))))
    (pss_cons (ps_if (pt_cmpR op_eq (pv 1) pe_str (nomark _))
    (pss_one (ps_ret (pe_cmpR op_eq (pe_callB call_len_seq (by rfl) T.z_len PySem.boot_len (pa_cons (pv 3) pa_nil)) pe_int (nomark _))))
    pss_nil)
    (pss_cons (ps_if (pt_cmpR op_eq (pv 1) pe_str (nomark _))
    (pss_cons (ps_setLc (i := 6) (own := [("_law_row", 4)]) (g := gName 4) rfl sc_L_open.nd rfl rfl (sw_true rfl rfl rfl (by decide +kernel)) (pi_list (pv 3)) (blkOk_by (own := [("_law_row", 4)]) (N := N_L_open) (sc := d_L_open.scope) (by decide +kernel)) (fun _ _ _ _ _ => (pg_name (i := 4) sc_L_open.nd rfl (Or.inl rfl))) (fun _ _ _ _ _ => pts_nil) (fun _ _ _ _ _ => (pe_ix (show IxR _ (rIxT K) from ix_tup) (pv 4) pe_int (fun _ _ => rfl))))
    (pss_one (ps_ret (pe_and (pe_chain op_lt op_le pe_int (pe_callB call_len_seq (by rfl) T.z_len PySem.boot_len (pa_cons (pv 2) pa_nil)) (pe_callB call_len_seq (by rfl) T.z_len PySem.boot_len (pa_cons (pv 6) pa_nil))) (pe_one (pe_cmpR (op_eqV hr.units) (pe_callTy call_list_of (by rfl) T.z_list (by decide +kernel) (pa_cons (pv 2) pa_nil)) (pe_slice sl_list (pv 6) (po_some (pe_op op_sub (pe_callB call_len_seq (by rfl) T.z_len PySem.boot_len (pa_cons (pv 6) pa_nil)) (pe_callB call_len_seq (by rfl) T.z_len PySem.boot_len (pa_cons (pv 2) pa_nil)))) po_none) (nomark _)))))))
    pss_nil)
    (pss_one (ps_ret pe_bl))))))), ?_⟩
  have Fc := Gd.fact
  have lw := (W_len g).1
  obtain ⟨lr, elr⟩ : ∃ lr, lr = (W g).1.filter fun r => r.d.isNone := ⟨_, rfl⟩
  have elw : lr = (W g).2.filterMap fun p => (W g).1[p]? := elr.trans (opens Fc)
  have enum : nums (W g) = lr.map (·.n) := by rw [nums_eq, elw]
  have llr : lr.length ≤ g.length := by
    have := List.length_filter_le (fun r : WRow => r.d.isNone) (W g).1
    rw [elr]; omega
  have hby : ∀ (m : Nat) (r : WRow), lr[m]? = some r → r.by_ = (match m with | 0 => none | k + 1 => (lr[k]?).map (·.n)) := fun m r hm => by
    have hm2 : m < (W g).2.length := by
      have := lt_len hm
      rw [elw, wayLen Fc] at this
      exact this
    have hp := List.getElem?_eq_getElem hm2
    have hr2 := wayRows Fc m _ hp
    rw [← elw, hm] at hr2
    have := Fc.ch m _ r hp hr2.symm
    rw [this]
    cases m with
    | zero => rfl
    | succ k =>
      have hk : k < (W g).2.length := by omega
      have hpk := List.getElem?_eq_getElem hk
      have hrk := wayRows Fc k _ hpk
      rw [← elw] at hrk
      simp only [hpk, Option.bind_some, hrk]
  refine ⟨_, rfl, Rw, rfl, ⟨rv, SqL.of hRw⟩, fun B hB => ?_⟩
  refine lc_list (K := K) (a := Rw) (xs := rv) (fun i G => Same H G ∧ ∃ lv, G B = some (.lst lv) ∧ WRowsAt G lv (((W g).1.take i).filter fun r => r.d.isNone)) ⟨same_new hB, [], upd_same, rfl, fun i v r h => by cases h⟩ (fun i G _ h => SqL.of (h.1 _ _ hRw)) ?_ ?_
  · rintro i v G hi ⟨sG, lv, gB, hlv⟩
    have hlt : i < (W g).1.length := by rw [← hrv.1]; exact lt_len hi
    obtain ⟨r, hr'⟩ : ∃ r, (W g).1[i]? = some r := ⟨_, List.getElem?_eq_getElem hlt⟩
    obtain ⟨a, rfl, ha⟩ := hrv.2 i v r hi hr'
    have ha1 := sG _ _ ha
    refine ⟨rfl, ?_⟩
    refine ⟨_, rfl, a, _, _, _, rfl, rfl, SqT.of ha1, rfl, rfl, ?_⟩
    rw [show decide (optV r.d = .non) = r.d.isNone from optV_isN r.d]
    refine ⟨_, rfl, ifB (fun c => ?_) (fun c => ?_)⟩
    · have st := sty_off (o := .lst (lv ++ [.ref a])) (.inl ⟨_, gB⟩)
      refine ⟨_, rfl, lv, gB, small9 ?_, same_grow sG hB, lv ++ [.ref a], upd_same, ?_⟩
      · have := List.length_filter_le (fun r : WRow => r.d.isNone) ((W g).1.take i)
        rw [List.length_take] at this
        rw [hlv.1]; omega
      · rw [take_snoc hr', List.filter_append, List.filter_cons_of_pos (by exact c)]
        exact snoc2 (P := WRowAt _) (hlv.keep st.1) ⟨a, rfl, st.1 _ _ ha1⟩
    · refine ⟨sG, lv, gB, ?_⟩
      rw [take_snoc hr', List.filter_append, List.filter_cons_of_neg (by intro z; rw [c] at z; cases z)]
      simpa using hlv
  rintro G ⟨sG, lv, gB, hlv⟩
  rw [hrv.1, List.take_of_length_le (Nat.le_refl _), ← elr] at hlv
  refine ⟨_, rfl, B, rfl, ⟨lv, SqL.of gB⟩, for_list (K := K) (a := B) (xs := lv)
    (fun i σ G' => G' = G ∧ ∃ v5 v6, σ = [some (.ref Rw), some (.str word), some wv, some (.ref B), v5, some (optV (match i with | 0 => none | k + 1 => (lr[k]?).map (·.n))), v6])
    ⟨rfl, _, _, rfl⟩ (fun i σ G' _ h => by rw [h.1]; exact SqL.of gB) ?_ ?_⟩
  · rintro i v σ G' hi ⟨rfl, v5, v6, rfl⟩
    have hlt : i < lr.length := by rw [← hlv.1]; exact lt_len hi
    obtain ⟨r, hr'⟩ : ∃ r, lr[i]? = some r := ⟨_, List.getElem?_eq_getElem hlt⟩
    obtain ⟨a, rfl, ha⟩ := hlv.2 i v r hi hr'
    have hb := hby i r hr'
    refine ⟨_, rfl, a, _, _, _, rfl, rfl, SqT.of ha, rfl, ⟨_, rfl, scal_optV _ _, ?_⟩⟩
    rw [hb]
    refine ⟨_, rfl, ifF (by simp) ?_⟩
    refine ⟨_, rfl, a, _, _, _, rfl, rfl, SqT.of ha, rfl, ?_⟩
    refine ⟨rfl, some (.ref a), v6, ?_⟩
    have e : optV ((lr[i]?).map (·.n)) = .int ((r.n : Nat) : Int) := by rw [hr']; rfl
    show _ = [some (V.ref Rw), some (V.str word), some wv, some (V.ref B), some (V.ref a), some (optV ((lr[i]?).map (·.n))), v6]
    rw [e]
    rfl
  · rintro σ G' ⟨rfl, v5, v6, rfl⟩
    by_cases h1 : word = "told"
    · subst h1
      refine ⟨_, rfl, rfl, _, rfl, ifT (by decide +kernel) ?_⟩
      have hz := htold rfl
      rw [enum] at hz
      have l0 : lv.length = 0 := by
        rw [hlv.1]
        have := congrArg List.length hz
        simpa using this
      refine ⟨_, rfl, B, _, rfl, .inl (SqL.of gB), rfl, ?_⟩
      rw [l0]
      exact q G' sG
    refine ⟨_, rfl, rfl, _, rfl, ifF (by simpa using h1) ?_⟩
    by_cases h2 : word = "ring"
    · obtain ⟨wq, ls, i, rfl, hwq, hi, hls⟩ := hring h2
      subst h2
      refine ⟨_, rfl, rfl, _, rfl, ifT (by decide +kernel) ?_⟩
      refine ⟨_, rfl, B, rfl, ⟨lv, SqL.of gB⟩, fun B2 hB2 => ?_⟩
      refine lc_list (K := K) (a := B) (xs := lv) (fun i G2 => Same G' G2 ∧ G2 B2 = some (.lst (((lr.take i).map (·.l)).map V.str))) ⟨same_new hB2, upd_same⟩ (fun i G2 _ h => SqL.of (h.1 _ _ gB)) ?_ ?_
      · rintro j v G2 hj ⟨sG2, g2⟩
        have hlt : j < lr.length := by rw [← hlv.1]; exact lt_len hj
        obtain ⟨r, hr'⟩ : ∃ r, lr[j]? = some r := ⟨_, List.getElem?_eq_getElem hlt⟩
        obtain ⟨a, rfl, ha⟩ := hlv.2 j v r hj hr'
        refine ⟨rfl, ?_⟩
        refine ⟨_, rfl, a, _, _, _, rfl, rfl, SqT.of (sG2 _ _ ha), rfl, _, g2, small9 ?_, same_grow sG2 hB2, ?_⟩
        · rw [List.length_map, List.length_map, List.length_take]; omega
        · rw [upd_same, take_snoc hr', List.map_append, List.map_append]
          rfl
      · rintro G2 ⟨sG2, g2⟩
        rw [hlv.1, List.take_of_length_le (Nat.le_refl _)] at g2
        have hwq2 := sG2 _ _ (sG _ _ hwq)
        rw [enum] at hi hls
        rw [List.length_map] at hi
        have els : ls = (lr.drop i).map (·.l) := by
          have lab : ∀ r ∈ lr, Lb[r.n]? = some r.l := fun r hr => Fc.lab r (by rw [elr] at hr; exact (List.mem_filter.mp hr).1)
          have : ((lr.map (·.n)).drop i).map (fun k => Lb[k]?) = ((lr.drop i).map (·.l)).map some := by
            rw [← List.map_drop, List.map_map, List.map_map]
            apply List.map_congr_left
            intro r hr
            exact lab r (List.mem_of_mem_drop hr)
          rw [this] at hls
          have inj : ∀ (a b : List Str), a.map some = b.map some → a = b := fun a => by
            induction a with
            | nil => intro b h; cases b with
              | nil => rfl
              | cons y b => cases h
            | cons x a ih => intro b h; cases b with
              | nil => cases h
              | cons y b =>
                simp only [List.map_cons, List.cons.injEq, Option.some.injEq] at h
                rw [h.1, ih b h.2]
          exact inj _ _ hls
        have lls : ls.length = lr.length - i := by rw [els, List.length_map, List.length_drop]
        refine ⟨_, rfl, wq, _, rfl, .inr (SqT.of hwq2), _, _, rfl, rfl, _, rfl, ifT (decide_eq_true (by rw [List.length_map]; omega)) ?_⟩
        refine ⟨_, rfl, B2, _, rfl, .inl (SqL.of g2), _, _, rfl, rfl, _, rfl, ifT (decide_eq_true (by rw [List.length_map, List.length_map, List.length_map]; omega)) ?_⟩
        refine ⟨_, rfl, wq, _, rfl, .inr (SqT.of hwq2), fun B3 hB3 => ?_⟩
        have e3 := same_new (o := .lst (ls.map V.str)) hB3
        have g3 := e3 _ _ g2
        refine ⟨_, rfl, _, rfl, B2, _, rfl, .inl (SqL.of g3), ⟨_, rfl, wq, _, rfl, .inr (SqT.of (e3 _ _ hwq2)), _, _, rfl, rfl, _, rfl, B2, _, rfl, SqL.of g3, fun B4 hB4 => ?_⟩⟩
        have ecut : cutV ((lr.map (·.l)).map V.str) (some (((((lr.map (·.l)).map V.str).length : Nat) : Int) - (((ls.map V.str).length : Nat) : Int))) none = ls.map V.str := by
          have ei : ((((lr.map (·.l)).map V.str).length : Nat) : Int) - (((ls.map V.str).length : Nat) : Int) = ((i : Nat) : Int) := by
            rw [List.length_map, List.length_map, List.length_map, lls]; omega
          rw [ei]
          unfold cutV
          rw [HT.sIx_nat, HT.sIx_none, List.length_map, List.length_map, Nat.min_eq_left (by omega), List.take_of_length_le (by simp), els, List.map_drop, List.map_drop]
        have e4 := same_new (o := .lst (ls.map V.str)) hB4
        have fin : ∀ z, z = ls.map V.str → ∀ Hx, Hx = upd (upd G2 B3 (.lst (ls.map V.str))) B4 (.lst z) → rEqV K (.ref B3) (.ref B4) Hx Q := by
          rintro z rfl Hx rfl
          exact ⟨2, by decide, .inl ⟨B3, B4, _, _, rfl, rfl, SqL.of (e4 _ _ upd_same), SqL.of upd_same, paired_strs ls⟩, q _ (sG.trans (sG2.trans (e3.trans e4)))⟩
        exact fin _ ecut _ rfl
    · refine ⟨_, rfl, rfl, _, rfl, ifF (by simpa using h2) ?_⟩
      exact q G' sG
end
end W83

namespace W83
open PySem PySem.Spec PyProof.Rows L2
abbrev N_L_mix : List Str := ["_law_cell", "_law_k"]
abbrev P_L_mix : List Str := ["_law_cell", "_law_k"]
theorem sc_L_mix : FnScope N_L_mix P_L_mix d_L_mix.scope := ⟨rfl, rfl, rfl, by decide +kernel, rfl, by decide +kernel, by decide +kernel⟩

abbrev N_L_expr : List Str := ["_law_pool", "_law_cell", "_law_way", "_law_number", "_law_one", "_law_other", "_law_op", "_law_both"]
abbrev P_L_expr : List Str := ["_law_pool", "_law_cell"]
theorem sc_L_expr : FnScope N_L_expr P_L_expr d_L_expr.scope := ⟨rfl, rfl, rfl, by decide +kernel, rfl, by decide +kernel, by decide +kernel⟩

abbrev F0 : Nat → Prop := fun _ => False
def spMix : Sp := fun vs H Q _ => ∃ (c k : Int), vs = [.int c, .int k] ∧ 0 ≤ k ∧ k ≤ 1000 ∧ ∀ r : Int, 0 ≤ r → r < 2147483647 → Q (.int r) H
def spExpr : Sp := fun vs H Q _ => ∃ (pl : Addr) (ps : List Str) (c : Int), vs = [.ref pl, .int c] ∧ H pl = some (.lst (ps.map V.str)) ∧ ps ≠ [] ∧ ps.length ≤ 1000 ∧ ∀ (v : V) (H' : Hp), Same H H' → Tm F0 H' 4 v → Q v H'
section
variable {P : Program} {w : World} {K : PySem.W.Frag} {mg : Str → Option Value} {base : Heap}
theorem ok_mix (T : Top K mg) : Keeps P w K mg base CX0 1 d_L_mix P_L_mix spMix := by
  obtain ⟨fd, F, bd⟩ := T.f_L_mix
  refine keeps0 F bd sc_L_mix (fun vs H Q E h => ?_) (fun cdv AA outer sh H vs Q E hr h => ?_)
  · obtain ⟨c, k, rfl, _⟩ := h
    rfl
  obtain ⟨c, k, rfl, h0, h1, q⟩ := h
  refine ⟨_, (pss_one (ps_ret (pe_op op_mod (pe_op op_mul (pv 0) (pe_op op_add pe_int (pe_op op_mul pe_int (pv 1)))) pe_int))), ?_⟩
  refine ⟨_, rfl, _, rfl, _, _, rfl, rfl, .inl ⟨by decide, by decide⟩, _, _, rfl, rfl, _, _, rfl, rfl, .inr ⟨?_, ?_⟩, _, _, rfl, rfl, (by decide : (0 : Int) < 2147483647), ?_⟩
  · show -(2 ^ 64) < 48271 + 2 * k
    omega
  · show 48271 + 2 * k < 2 ^ 64
    omega
  · exact q _ (Int.emod_nonneg _ (by decide)) (Int.emod_lt_of_pos _ (by decide))
theorem at_mod {ps : List Str} (h : ps ≠ []) (r : Int) : ∃ x, atI (ps.map V.str) (r % (((ps.map V.str).length : Nat) : Int)) = some (.str x) := by
  have hl : 0 < ps.length := List.length_pos_iff.mpr h
  have h0 : 0 ≤ r % ((ps.length : Nat) : Int) := Int.emod_nonneg _ (by omega)
  have h1 : r % ((ps.length : Nat) : Int) < ps.length := Int.emod_lt_of_pos _ (by omega)
  obtain ⟨n, hn⟩ : ∃ n : Nat, r % ((ps.length : Nat) : Int) = n := ⟨_, (Int.toNat_of_nonneg h0).symm⟩
  rw [List.length_map, hn]
  have hlt : n < ps.length := by omega
  exact ⟨ps[n], at_get (by rw [List.getElem?_map, List.getElem?_eq_getElem hlt]; rfl)⟩
theorem str_ix (z : Str) {n : Nat} (hz : z.length = n) (hn : n ≤ 1000) {r : Int} (h0 : 0 ≤ r) (h1 : r < n) : 0 ≤ r ∧ r < 2 ^ 63 ∧ r < z.length ∧ ∃ c, z.cps[r.toNat]? = some c := by
  refine ⟨h0, by omega, by omega, ?_⟩
  have hlt : r.toNat < z.cps.size := by
    have : z.cps.size = n := hz
    omega
  exact ⟨_, Array.getElem?_eq_getElem hlt⟩
theorem mod3 (r : Int) : 0 ≤ r % 3 ∧ r % 3 < 3 := ⟨Int.emod_nonneg _ (by decide), Int.emod_lt_of_pos _ (by decide)⟩
theorem ok_expr (T : Top K mg) : Keeps P w K mg base CX0 2 d_L_expr P_L_expr spExpr := by
  obtain ⟨fd, F, bd⟩ := T.f_L_expr
  obtain ⟨_, G_L_mix⟩ := ok_mix (P := P) (w := w) (base := base) T
  refine keeps0 F bd sc_L_expr (fun vs H Q E h => ?_) (fun cdv AA outer sh H vs Q E hr h => ?_)
  · obtain ⟨pl, ps, c, rfl, _⟩ := h
    rfl
  obtain ⟨pl, ps, c, rfl, hpl, hne, hlen, q⟩ := h
  refine ⟨_, (pss_cons (ps_set (i := 2) sc_L_expr.nd rfl (Or.inl rfl) (pe_op op_mod (pe_call G_L_mix.ok (hr.mono (by decide)) rfl T.g_law_mix G_L_mix.kp G_L_mix.bd .nil pass0 (pa_cons (pv 1) (pa_cons pe_int pa_nil))) pe_int))
    (pss_cons (ps_set (i := 3) sc_L_expr.nd rfl (Or.inl rfl) (pe_tup (pa_cons pe_str (pa_cons (pe_op op_mod (pv 1) (pe_op op_pow pe_int pe_int)) pa_nil))))
    (pss_cons (ps_set (i := 4) sc_L_expr.nd rfl (Or.inl rfl) (pe_tup (pa_cons pe_str (pa_cons (pe_ix ix_list (pv 0) (pe_op op_mod (pe_call G_L_mix.ok (hr.mono (by decide)) rfl T.g_law_mix G_L_mix.kp G_L_mix.bd .nil pass0 (pa_cons (pv 1) (pa_cons pe_int pa_nil))) (pe_callB call_len_seq (by rfl) T.z_len PySem.boot_len (pa_cons (pv 0) pa_nil))) (fun _ _ => rfl)) pa_nil))))
    (pss_cons (ps_set (i := 5) sc_L_expr.nd rfl (Or.inl rfl) (pe_tup (pa_cons pe_str (pa_cons (pe_ix ix_list (pv 0) (pe_op op_mod (pe_call G_L_mix.ok (hr.mono (by decide)) rfl T.g_law_mix G_L_mix.kp G_L_mix.bd .nil pass0 (pa_cons (pv 1) (pa_cons pe_int pa_nil))) (pe_callB call_len_seq (by rfl) T.z_len PySem.boot_len (pa_cons (pv 0) pa_nil))) (fun _ _ => rfl)) pa_nil))))
    (pss_cons (ps_set (i := 6) sc_L_expr.nd rfl (Or.inl rfl) (pe_item_str pe_str (pe_op op_mod (pe_call G_L_mix.ok (hr.mono (by decide)) rfl T.g_law_mix G_L_mix.kp G_L_mix.bd .nil pass0 (pa_cons (pv 1) (pa_cons pe_int pa_nil))) pe_int) (fun _ _ => rfl)))
    (pss_cons (ps_if (pt_cmpR op_lt (pv 2) pe_int (nomark _))
    (pss_one (ps_ret (pv 3)))
    pss_nil)
    (pss_cons (ps_if (pt_cmpR op_eq (pv 2) pe_int (nomark _))
    (pss_one (ps_ret (pv 4)))
    pss_nil)
    (pss_cons (ps_if (pt_cmpR op_lt (pv 2) pe_int (nomark _))
    (pss_one (ps_ret (pe_tup (pa_cons pe_str (pa_cons (pv 6) (pa_cons (pv 4) (pa_cons (pv 5) pa_nil)))))))
    pss_nil)
    (pss_cons (ps_if (pt_cmpR op_eq (pv 2) pe_int (nomark _))
    (pss_one (ps_ret (pe_tup (pa_cons pe_str (pa_cons (pv 6) (pa_cons (pv 4) (pa_cons (pv 3) pa_nil)))))))
    pss_nil)
    (pss_cons (ps_if (pt_cmpR op_eq (pv 2) pe_int (nomark _))
    (pss_one (ps_ret (pe_tup (pa_cons pe_str (pa_cons (pe_tup (pa_cons pe_str (pa_cons (pe_item_str pe_str (pe_op op_mod (pe_call G_L_mix.ok (hr.mono (by decide)) rfl T.g_law_mix G_L_mix.kp G_L_mix.bd .nil pass0 (pa_cons (pv 1) (pa_cons pe_int pa_nil))) pe_int) (fun _ _ => rfl)) (pa_cons (pv 4) (pa_cons (pv 3) pa_nil))))) (pa_cons (pe_tup (pa_cons (pe_tup (pa_cons pe_str (pa_cons (pe_tup pa_nil) (pa_cons (pv 5) pa_nil)))) (pa_cons (pe_tup (pa_cons pe_str (pa_cons (pe_tup pa_nil) (pa_cons (pv 3) pa_nil)))) pa_nil))) pa_nil))))))
    pss_nil)
    (pss_cons (ps_if (pt_cmpR op_eq (pv 2) pe_int (nomark _))
    (pss_one (ps_ret (pe_tup (pa_cons pe_str (pa_cons (pv 4) (pa_cons (pv 5) pa_nil))))))
    pss_nil)
    (pss_cons (ps_if (pt_cmpR op_eq (pv 2) pe_int (nomark _))
    (pss_one (ps_ret (pe_tup (pa_cons pe_str (pa_cons (pe_tup (pa_cons pe_str (pa_cons pe_str (pa_cons (pe_tup (pa_cons pe_str (pa_cons (pv 6) (pa_cons (pe_tup (pa_cons pe_str (pa_cons pe_str pa_nil))) (pa_cons (pe_tup (pa_cons pe_str (pa_cons pe_str pa_nil))) pa_nil))))) pa_nil)))) (pa_cons (pv 4) pa_nil))))))
    pss_nil)
    (pss_cons (ps_if (pt_cmpR op_eq (pv 2) pe_int (nomark _))
    (pss_one (ps_ret (pe_tup (pa_cons pe_str (pa_cons (pe_tup (pa_cons pe_str (pa_cons pe_str (pa_cons (pe_tup (pa_cons pe_str (pa_cons (pv 6) (pa_cons (pe_tup (pa_cons pe_str (pa_cons pe_str pa_nil))) (pa_cons (pv 5) pa_nil))))) pa_nil)))) (pa_cons (pe_tup (pa_cons pe_str (pa_cons pe_str (pa_cons (pv 4) (pa_cons (pv 3) pa_nil))))) pa_nil))))))
    pss_nil)
    (pss_cons (ps_if (pt_cmpR op_eq (pv 2) pe_int (nomark _))
    (pss_cons (ps_set (i := 7) sc_L_expr.nd rfl (Or.inl rfl) (pe_tup (pa_cons pe_str (pa_cons (pv 6) (pa_cons (pe_tup (pa_cons pe_str (pa_cons pe_str pa_nil))) (pa_cons (pe_tup (pa_cons pe_str (pa_cons pe_str pa_nil))) pa_nil))))))
    (pss_one (ps_ret (pe_tup (pa_cons pe_str (pa_cons (pe_tup (pa_cons pe_str (pa_cons pe_str (pa_cons (pe_tup (pa_cons (pv 4) (pa_cons (pe_tup (pa_cons pe_str (pa_cons pe_str (pa_cons (pv 5) (pa_cons (pv 3) pa_nil))))) pa_nil))) pa_nil)))) (pa_cons (pe_tup (pa_cons (pe_tup (pa_cons pe_str (pa_cons (pe_tup (pa_cons pe_str (pa_cons pe_str pa_nil))) (pa_cons (pv 7) pa_nil)))) pa_nil)) pa_nil)))))))
    pss_nil)
    (pss_one (ps_ret (pe_ix ix_list (pe_lst (pa_cons (pe_tup (pa_cons pe_str (pa_cons pe_str pa_nil))) (pa_cons (pe_tup (pa_cons pe_str (pa_cons (pv 6) (pa_cons (pv 4) (pa_cons (pv 4) pa_nil))))) pa_nil))) (pe_callTy call_int1 (by rfl) T.z_int (by decide +kernel) (pa_cons (pe_cmpR op_gt (pe_op op_mod (pv 1) pe_int) pe_int (nomark _)) pa_nil)) (fun _ _ => rfl)))))))))))))))))), ?_⟩
  refine ⟨_, rfl, c, 1, rfl, by decide, by decide, fun r1 _ _ => ⟨_, _, rfl, rfl, (by decide : (0 : Int) < 12), ?_⟩⟩
  have eb : ((10 : Int) ^ (18 : Int).toNat) = big := by decide
  refine ⟨_, rfl, _, _, rfl, rfl, ⟨by decide, by decide, by decide⟩, _, _, rfl, rfl, (by decide : (0 : Int) < 10 ^ (18 : Int).toNat), small50 (by simp), fun pn hpn => ?_⟩
  have s1 := same_new (o := .tup [.str "number", .int (c % 10 ^ (18 : Int).toNat)]) hpn
  -- one
  have pl1 := s1 _ _ hpl
  have lpos : (0 : Int) < (((ps.map V.str).length : Nat) : Int) := by rw [List.length_map]; have := List.length_pos_iff.mpr hne; omega
  refine ⟨_, rfl, _, rfl, c, 2, rfl, by decide, by decide, fun r2 _ _ => ⟨_, rfl, pl, _, rfl, .inl (SqL.of pl1), _, _, rfl, rfl, lpos, ?_⟩⟩
  obtain ⟨x1, hx1⟩ := at_mod hne r2
  refine ⟨pl, _, _, _, rfl, rfl, SqL.of pl1, hx1, small50 (by simp), fun p1 hp1 => ?_⟩
  have s2 := same_new (o := .tup [.str "name", .str x1]) hp1
  have pl2 := s2 _ _ pl1
  refine ⟨_, rfl, _, rfl, c, 3, rfl, by decide, by decide, fun r3 _ _ => ⟨_, rfl, pl, _, rfl, .inl (SqL.of pl2), _, _, rfl, rfl, lpos, ?_⟩⟩
  obtain ⟨x2, hx2⟩ := at_mod hne r3
  refine ⟨pl, _, _, _, rfl, rfl, SqL.of pl2, hx2, small50 (by simp), fun p2 hp2 => ?_⟩
  have s3 := same_new (o := .tup [.str "name", .str x2]) hp2
  -- op
  refine ⟨_, rfl, c, 4, rfl, by decide, by decide, fun r4 _ _ => ⟨_, _, rfl, rfl, (by decide : (0 : Int) < 3), ?_⟩⟩
  obtain ⟨i0, i1, i2, oc, hoc⟩ := str_ix ("+-*" : Str) (n := 3) (by decide +kernel) (by decide) (mod3 r4).1 (mod3 r4).2
  refine ⟨_, _, _, rfl, rfl, i0, i1, i2, hoc, ?_⟩
  obtain ⟨op, hop⟩ : ∃ op : Str, op = ⟨#[oc]⟩ := ⟨_, rfl⟩
  rw [← hop]
  have s0 := s1.trans (s2.trans s3)
  obtain ⟨G, hG⟩ : ∃ G, G = upd (upd (upd H pn (.tup [.str "number", .int (c % 10 ^ (18 : Int).toNat)])) p1 (.tup [.str "name", .str x1])) p2 (.tup [.str "name", .str x2]) := ⟨_, rfl⟩
  have gn : G pn = some (.tup [.str "number", .int (c % 10 ^ (18 : Int).toNat)]) := by rw [hG]; exact s3 _ _ (s2 _ _ upd_same)
  have g1 : G p1 = some (.tup [.str "name", .str x1]) := by rw [hG]; exact s3 _ _ upd_same
  have g2 : G p2 = some (.tup [.str "name", .str x2]) := by rw [hG]; exact upd_same
  have sG : Same H G := by rw [hG]; exact s0
  rw [← hG]
  have tn : ∀ {G' : Hp} (d : Nat), TupK G G' → Tm F0 G' (d + 1) (.ref pn) := fun d k => ⟨pn, _, rfl, k _ _ gn, .number _ (by rw [eb]; exact (big_mod c).1) (by rw [eb]; exact (big_mod c).2)⟩
  have t1 : ∀ {G' : Hp} (d : Nat), TupK G G' → Tm F0 G' (d + 1) (.ref p1) := fun d k => ⟨p1, _, rfl, k _ _ g1, .name x1⟩
  have t2 : ∀ {G' : Hp} (d : Nat), TupK G G' → Tm F0 G' (d + 1) (.ref p2) := fun d k => ⟨p2, _, rfl, k _ _ g2, .name x2⟩
  refine ⟨_, rfl, _, _, rfl, rfl, _, rfl, ifB (fun _ => ?_) (fun _ => ?_)⟩
  · exact ⟨_, rfl, q _ _ sG (tn 3 (TupK.refl _))⟩
  refine ⟨_, rfl, rfl, _, rfl, ifB (fun _ => ?_) (fun _ => ?_)⟩
  · exact ⟨_, rfl, q _ _ sG (t1 3 (TupK.refl _))⟩
  refine ⟨_, rfl, _, _, rfl, rfl, _, rfl, ifB (fun _ => ?_) (fun _ => ?_)⟩
  · refine ⟨_, rfl, _, rfl, _, rfl, small50 (by simp), fun r hr' => ?_⟩
    have e := same_new (o := .tup [.str "does", .str op, .ref p1, .ref p2]) hr'
    exact q _ _ (sG.trans e) ⟨r, _, rfl, upd_same, .does op _ _ (t1 2 (sameTupK e)) (t2 2 (sameTupK e))⟩
  refine ⟨_, rfl, rfl, _, rfl, ifB (fun _ => ?_) (fun _ => ?_)⟩
  · refine ⟨_, rfl, _, rfl, _, rfl, small50 (by simp), fun r hr' => ?_⟩
    have e := same_new (o := .tup [.str "does", .str op, .ref p1, .ref pn]) hr'
    exact q _ _ (sG.trans e) ⟨r, _, rfl, upd_same, .does op _ _ (t1 2 (sameTupK e)) (tn 2 (sameTupK e))⟩
  refine ⟨_, rfl, rfl, _, rfl, ifB (fun _ => ?_) (fun _ => ?_)⟩
  · -- a choice
    refine ⟨_, rfl, c, 5, rfl, by decide, by decide, fun r5 _ _ => ⟨_, _, rfl, rfl, (by decide : (0 : Int) < 3), ?_⟩⟩
    obtain ⟨j0, j1, j2, od, hod⟩ := str_ix ("<==" : Str) (n := 3) (by decide +kernel) (by decide) (mod3 r5).1 (mod3 r5).2
    refine ⟨_, _, _, rfl, rfl, j0, j1, j2, hod, _, rfl, _, rfl, small50 (by simp), fun b1 hb1 => ?_⟩
    have e1 := same_new (o := .tup [.str "does", .str ⟨#[od]⟩, .ref p1, .ref pn]) hb1
    refine ⟨small50 (by simp), fun b2 hb2 => ⟨_, rfl, small50 (by simp), fun b3 hb3 => ⟨small50 (by simp), fun b4 hb4 => ⟨_, rfl, small50 (by simp), fun b5 hb5 => ⟨small50 (by simp), fun b6 hb6 => ⟨small50 (by simp), fun r hr' => ?_⟩⟩⟩⟩⟩⟩
    have e2 := same_new (o := .tup []) hb2
    have e3 := same_new (o := .tup [.str "No", .ref b2, .ref p2]) hb3
    have e4 := same_new (o := .tup []) hb4
    have e5 := same_new (o := .tup [.str "Yes", .ref b4, .ref pn]) hb5
    have e6 := same_new (o := .tup [.ref b3, .ref b5]) hb6
    have e7 := same_new (o := .tup [.str "choose", .ref b1, .ref b6]) hr'
    have a6 := e7
    have a5 := e6.trans a6
    have a4 := e5.trans a5
    have a3 := e4.trans a4
    have a2 := e3.trans a3
    have a1 := e2.trans a2
    have a0 := e1.trans a1
    have kk := sameTupK a0
    refine q _ _ (sG.trans a0) ⟨r, _, rfl, upd_same, .choose _ b6 [.ref b3, .ref b5] ⟨b1, _, rfl, a1 _ _ upd_same, .does _ _ _ (t1 1 kk) (tn 1 kk)⟩ (a6 _ _ upd_same) (by simp) fun v hv => ?_⟩
    simp only [List.mem_cons, List.not_mem_nil, or_false] at hv
    rcases hv with rfl | rfl
    · exact ⟨"No", b3, b2, _, [], rfl, a3 _ _ upd_same, a2 _ _ upd_same, t2 2 kk⟩
    · exact ⟨"Yes", b5, b4, _, [], rfl, a5 _ _ upd_same, a4 _ _ upd_same, tn 2 kk⟩
  refine ⟨_, rfl, rfl, _, rfl, ifB (fun _ => ?_) (fun _ => ?_)⟩
  · refine ⟨_, rfl, _, rfl, small50 (by simp), fun r hr' => ?_⟩
    have e := same_new (o := .tup [.str "first", .ref p1, .ref p2]) hr'
    exact q _ _ (sG.trans e) ⟨r, _, rfl, upd_same, .first _ _ (t1 2 (sameTupK e)) (t2 2 (sameTupK e))⟩
  refine ⟨_, rfl, rfl, _, rfl, ifB (fun _ => ?_) (fun _ => ?_)⟩
  · refine ⟨_, rfl, small50 (by simp), fun b1 hb1 => ⟨small50 (by simp), fun b2 hb2 => ⟨small50 (by simp), fun b3 hb3 => ⟨small50 (by simp), fun b4 hb4 => ⟨_, rfl, small50 (by simp), fun r hr' => ?_⟩⟩⟩⟩⟩
    have e1 := same_new (o := .tup [.str "name", .str "z"]) hb1
    have e2 := same_new (o := .tup [.str "name", .str "z"]) hb2
    have e3 := same_new (o := .tup [.str "does", .str op, .ref b1, .ref b2]) hb3
    have e4 := same_new (o := .tup [.str "fun", .str "z", .ref b3]) hb4
    have e5 := same_new (o := .tup [.str "call", .ref b4, .ref p1]) hr'
    have a4 := e5
    have a3 := e4.trans a4
    have a2 := e3.trans a3
    have a1 := e2.trans a2
    have a0 := e1.trans a1
    exact q _ _ (sG.trans a0) ⟨r, _, rfl, upd_same, .call _ _ ⟨b4, _, rfl, a4 _ _ upd_same, .fun_ _ _ ⟨b3, _, rfl, a3 _ _ upd_same, .does _ _ _ ⟨b1, _, rfl, a1 _ _ upd_same, .name _⟩ ⟨b2, _, rfl, a2 _ _ upd_same, .name _⟩⟩⟩ (t1 2 (sameTupK a0))⟩
  refine ⟨_, rfl, rfl, _, rfl, ifB (fun _ => ?_) (fun _ => ?_)⟩
  · refine ⟨_, rfl, small50 (by simp), fun b1 hb1 => ⟨_, rfl, small50 (by simp), fun b2 hb2 => ⟨small50 (by simp), fun b3 hb3 => ⟨_, rfl, _, rfl, small50 (by simp), fun b4 hb4 => ⟨small50 (by simp), fun r hr' => ?_⟩⟩⟩⟩⟩
    have e1 := same_new (o := .tup [.str "name", .str "z"]) hb1
    have e2 := same_new (o := .tup [.str "does", .str op, .ref b1, .ref p2]) hb2
    have e3 := same_new (o := .tup [.str "fun", .str "z", .ref b2]) hb3
    have e4 := same_new (o := .tup [.str "does", .str "+", .ref p1, .ref pn]) hb4
    have e5 := same_new (o := .tup [.str "call", .ref b3, .ref b4]) hr'
    have a4 := e5
    have a3 := e4.trans a4
    have a2 := e3.trans a3
    have a1 := e2.trans a2
    have a0 := e1.trans a1
    have kk := sameTupK a0
    exact q _ _ (sG.trans a0) ⟨r, _, rfl, upd_same, .call _ _ ⟨b3, _, rfl, a3 _ _ upd_same, .fun_ _ _ ⟨b2, _, rfl, a2 _ _ upd_same, .does _ _ _ ⟨b1, _, rfl, a1 _ _ upd_same, .name _⟩ (t2 0 kk)⟩⟩ ⟨b4, _, rfl, a4 _ _ upd_same, .does _ _ _ (t1 1 kk) (tn 1 kk)⟩⟩
  refine ⟨_, rfl, rfl, _, rfl, ifB (fun _ => ?_) (fun _ => ?_)⟩
  · refine ⟨_, rfl, small50 (by simp), fun b1 hb1 => ⟨small50 (by simp), fun b2 hb2 => ⟨small50 (by simp), fun b3 hb3 => ⟨_, rfl, ⟨_, rfl, _, rfl, small50 (by simp), fun b4 hb4 => ⟨small50 (by simp), fun b5 hb5 => ⟨small50 (by simp), fun b6 hb6 => ⟨small50 (by simp), fun b7 hb7 => ⟨_, rfl, small50 (by simp), fun b8 hb8 => ⟨small50 (by simp), fun b9 hb9 => ⟨small50 (by simp), fun r hr' => ?_⟩⟩⟩⟩⟩⟩⟩⟩⟩⟩⟩
    have e1 := same_new (o := .tup [.str "name", .str "u"]) hb1
    have e2 := same_new (o := .tup [.str "name", .str "v"]) hb2
    have e3 := same_new (o := .tup [.str "does", .str op, .ref b1, .ref b2]) hb3
    have e4 := same_new (o := .tup [.str "does", .str "+", .ref p2, .ref pn]) hb4
    have e5 := same_new (o := .tup [.ref p1, .ref b4]) hb5
    have e6 := same_new (o := .tup [.str "shape", .str "Pair", .ref b5]) hb6
    have e7 := same_new (o := .tup [.str "u", .str "v"]) hb7
    have e8 := same_new (o := .tup [.str "Pair", .ref b7, .ref b3]) hb8
    have e9 := same_new (o := .tup [.ref b8]) hb9
    have e10 := same_new (o := .tup [.str "choose", .ref b6, .ref b9]) hr'
    have a9 := e10
    have a8 := e9.trans a9
    have a7 := e8.trans a8
    have a6 := e7.trans a7
    have a5 := e6.trans a6
    have a4 := e5.trans a5
    have a3 := e4.trans a4
    have a2 := e3.trans a3
    have a1 := e2.trans a2
    have a0 := e1.trans a1
    have kk := sameTupK a0
    refine q _ _ (sG.trans a0) ⟨r, _, rfl, upd_same, .choose _ b9 [.ref b8] ⟨b6, _, rfl, a6 _ _ upd_same, .shape _ b5 [.ref p1, .ref b4] (a5 _ _ upd_same) (by simp) (fun v hv => ?_) (by decide +kernel)⟩ (a9 _ _ upd_same) (by simp) fun v hv => ?_⟩
    · simp only [List.mem_cons, List.not_mem_nil, or_false] at hv
      rcases hv with rfl | rfl
      · exact t1 1 kk
      · exact ⟨b4, _, rfl, a4 _ _ upd_same, .does _ _ _ (t2 0 kk) (tn 0 kk)⟩
    · rw [List.mem_singleton.mp hv]
      exact ⟨"Pair", b8, b7, _, ["u", "v"], rfl, a8 _ _ upd_same, a7 _ _ upd_same, ⟨b3, _, rfl, a3 _ _ upd_same, .does _ _ _ ⟨b1, _, rfl, a1 _ _ upd_same, .name _⟩ ⟨b2, _, rfl, a2 _ _ upd_same, .name _⟩⟩⟩
  refine ⟨small50 (by simp), fun b1 hb1 => ⟨_, rfl, _, rfl, _, rfl, small50 (by simp), fun b2 hb2 => ⟨small50 (by simp), fun b3 hb3 => ?_⟩⟩⟩
  have e1 := same_new (o := .tup [.str "stop", .str "word"]) hb1
  have e2 := same_new (o := .tup [.str "does", .str op, .ref p1, .ref p1]) hb2
  have e3 := same_new (o := .lst [.ref b1, .ref b2]) hb3
  have a2 := e3
  have a1 := e2.trans a2
  have a0 := e1.trans a1
  have kk := sameTupK a0
  refine ⟨_, rfl, _, _, rfl, rfl, (by decide : (0 : Int) < 5), _, _, rfl, rfl, .inr ⟨_, rfl, ?_⟩⟩
  by_cases hz : 0 < c % 5
  · refine ⟨b3, _, _, .ref b2, rfl, rfl, SqL.of upd_same, ?_, q _ _ (sG.trans a0) ⟨b2, _, rfl, a2 _ _ upd_same, .does _ _ _ (t1 2 kk) (t1 2 kk)⟩⟩
    show atI [V.ref b1, V.ref b2] (if decide (c % 5 > 0) = true then 1 else 0) = _
    rw [decide_eq_true (show c % 5 > 0 from hz), if_pos rfl]
    rfl
  · refine ⟨b3, _, _, .ref b1, rfl, rfl, SqL.of upd_same, ?_, q _ _ (sG.trans a0) ⟨b1, _, rfl, a1 _ _ upd_same, .stop _⟩⟩
    show atI [V.ref b1, V.ref b2] (if decide (c % 5 > 0) = true then 1 else 0) = _
    rw [decide_eq_false (show ¬ c % 5 > 0 from hz), if_neg Bool.false_ne_true]
    rfl
end
end W83

namespace W83
open PySem PySem.Spec PyProof.Rows L2
abbrev N_L_list : List Str := ["_law_pool", "_law_ends", "_law_cell", "_law_more", "_law_end", "_law_way", "_law_asked"]
abbrev P_L_list : List Str := ["_law_pool", "_law_ends", "_law_cell", "_law_more"]
theorem sc_L_list : FnScope N_L_list P_L_list d_L_list.scope := ⟨rfl, rfl, rfl, by decide +kernel, rfl, by decide +kernel, by decide +kernel⟩

structure PoolAt (H : Hp) (pl : Addr) (ps : List Str) : Prop where
  at_ : H pl = some (.lst (ps.map V.str))
  ne : ps ≠ []
  len : ps.length ≤ 100
theorem PoolAt.same {H H' : Hp} {pl : Addr} {ps : List Str} (h : PoolAt H pl ps) (s : Same H H') : PoolAt H' pl ps := ⟨s _ _ h.at_, h.ne, h.len⟩
def spList : Sp := fun vs H Q _ => ∃ (pl el : Addr) (ps es : List Str) (c m : Int), vs = [.ref pl, .ref el, .int c, .int m] ∧ PoolAt H pl ps ∧ PoolAt H el es ∧ ∀ (v : V) (H' : Hp), Same H H' → Tm F0 H' 6 v → Q v H'
section
variable {P : Program} {w : World} {K : PySem.W.Frag} {mg : Str → Option Value} {base : Heap}
theorem PoolAt.pos {H : Hp} {pl : Addr} {ps : List Str} (h : PoolAt H pl ps) : (0 : Int) < (((ps.map V.str).length : Nat) : Int) := by
  rw [List.length_map]
  have := List.length_pos_iff.mpr h.ne
  omega
theorem ok_list (T : Top K mg) : Keeps P w K mg base CX0 3 d_L_list P_L_list spList := by
  obtain ⟨fd, F, bd⟩ := T.f_L_list
  obtain ⟨_, G_L_mix⟩ := ok_mix (P := P) (w := w) (base := base) T
  obtain ⟨_, G_L_expr⟩ := ok_expr (P := P) (w := w) (base := base) T
  refine keeps0 F bd sc_L_list (fun vs H Q E h => ?_) (fun cdv AA outer sh H vs Q E hr h => ?_)
  · obtain ⟨pl, el, ps, es, c, m, rfl, _⟩ := h
    rfl
  obtain ⟨pl, el, ps, es, c, m, rfl, hp, he, q⟩ := h
  refine ⟨_, (pss_cons (ps_set (i := 4) sc_L_list.nd rfl (Or.inl rfl) (pe_tup (pa_cons pe_str (pa_cons (pe_ix ix_list (pv 1) (pe_op op_mod (pe_call G_L_mix.ok (hr.mono (by decide)) rfl T.g_law_mix G_L_mix.kp G_L_mix.bd .nil pass0 (pa_cons (pv 2) (pa_cons pe_int pa_nil))) (pe_callB call_len_seq (by rfl) T.z_len PySem.boot_len (pa_cons (pv 1) pa_nil))) (fun _ _ => rfl)) pa_nil))))
    (pss_cons (ps_set (i := 5) sc_L_list.nd rfl (Or.inl rfl) (pe_op op_mod (pe_call G_L_mix.ok (hr.mono (by decide)) rfl T.g_law_mix G_L_mix.kp G_L_mix.bd .nil pass0 (pa_cons (pv 2) (pa_cons pe_int pa_nil))) pe_int))
    (pss_cons (ps_if (pt_cmpR op_eq (pv 5) pe_int (nomark _))
    (pss_one (ps_ret (pe_tup (pa_cons pe_str (pa_cons pe_str (pa_cons (pe_tup pa_nil) pa_nil))))))
    pss_nil)
    (pss_cons (ps_if (pt_cmpR op_eq (pv 5) pe_int (nomark _))
    (pss_cons (ps_set (i := 6) sc_L_list.nd rfl (Or.inl rfl) (pe_tup (pa_cons pe_str (pa_cons pe_str (pa_cons (pe_tup (pa_cons pe_str (pa_cons (pe_ix ix_list (pv 0) (pe_op op_mod (pe_call G_L_mix.ok (hr.mono (by decide)) rfl T.g_law_mix G_L_mix.kp G_L_mix.bd .nil pass0 (pa_cons (pv 2) (pa_cons pe_int pa_nil))) (pe_callB call_len_seq (by rfl) T.z_len PySem.boot_len (pa_cons (pv 0) pa_nil))) (fun _ _ => rfl)) pa_nil))) (pa_cons (pe_tup (pa_cons pe_str (pa_cons (pe_op op_mod (pv 2) pe_int) pa_nil))) pa_nil))))))
    (pss_one (ps_ret (pe_tup (pa_cons pe_str (pa_cons (pv 6) (pa_cons (pe_tup (pa_cons (pe_tup (pa_cons pe_str (pa_cons (pe_tup pa_nil) (pa_cons (pv 4) pa_nil)))) (pa_cons (pe_tup (pa_cons pe_str (pa_cons (pe_tup pa_nil) (pa_cons (pe_tup (pa_cons pe_str (pa_cons pe_str (pa_cons (pe_tup (pa_cons (pe_tup (pa_cons pe_str (pa_cons pe_int pa_nil))) (pa_cons (pv 4) pa_nil))) pa_nil)))) pa_nil)))) pa_nil))) pa_nil)))))))
    pss_nil)
    (pss_cons (ps_if (pt_cmpR op_lt (pv 5) pe_int (nomark _))
    (pss_one (ps_set (i := 4) sc_L_list.nd rfl (Or.inl rfl) (pe_tup (pa_cons pe_str (pa_cons pe_str (pa_cons (pe_tup (pa_cons (pe_call G_L_expr.ok (hr.mono (by decide)) rfl T.g_law_expr G_L_expr.kp G_L_expr.bd .nil pass0 (pa_cons (pv 0) (pa_cons (pv 3) pa_nil))) (pa_cons (pv 4) pa_nil))) pa_nil))))))
    pss_nil)
    (pss_one (ps_ret (pe_tup (pa_cons pe_str (pa_cons pe_str (pa_cons (pe_tup (pa_cons (pe_call G_L_expr.ok (hr.mono (by decide)) rfl T.g_law_expr G_L_expr.kp G_L_expr.bd .nil pass0 (pa_cons (pv 0) (pa_cons (pv 2) pa_nil))) (pa_cons (pv 4) pa_nil))) pa_nil))))))))))), ?_⟩
  refine ⟨_, rfl, _, rfl, c, 6, rfl, by decide, by decide, fun r1 _ _ => ⟨_, rfl, el, _, rfl, .inl (SqL.of he.at_), _, _, rfl, rfl, he.pos, ?_⟩⟩
  obtain ⟨x1, hx1⟩ := at_mod he.ne r1
  refine ⟨el, _, _, _, rfl, rfl, SqL.of he.at_, hx1, small50 (by simp), fun p0 hp0 => ?_⟩
  have s1 := same_new (o := .tup [.str "name", .str x1]) hp0
  refine ⟨_, rfl, c, 7, rfl, by decide, by decide, fun r2 _ _ => ⟨_, _, rfl, rfl, (by decide : (0 : Int) < 5), ?_⟩⟩
  have hp1 := hp.same s1
  refine ⟨_, rfl, rfl, _, rfl, ifB (fun _ => ?_) (fun _ => ?_)⟩
  · refine ⟨small50 (by simp), fun b1 hb1 => ⟨small50 (by simp), fun r hr' => ?_⟩⟩
    have e1 := same_new (o := .tup []) hb1
    have e2 := same_new (o := .tup [.str "shape", .str "Nil", .ref b1]) hr'
    exact q _ _ (s1.trans (e1.trans e2)) ⟨r, _, rfl, upd_same, .shape _ b1 [] (e2 _ _ upd_same) (by simp) (fun v hv => by cases hv) (by decide +kernel)⟩
  refine ⟨_, rfl, rfl, _, rfl, ifB (fun _ => ?_) (fun _ => ?_)⟩
  · refine ⟨_, rfl, _, rfl, c, 8, rfl, by decide, by decide, fun r3 _ _ => ⟨_, rfl, pl, _, rfl, .inl (SqL.of hp1.at_), _, _, rfl, rfl, hp1.pos, ?_⟩⟩
    obtain ⟨x2, hx2⟩ := at_mod hp1.ne r3
    refine ⟨pl, _, _, _, rfl, rfl, SqL.of hp1.at_, hx2, small50 (by simp), fun b1 hb1 => ⟨_, rfl, _, _, rfl, rfl, (by decide : (0 : Int) < 1000), small50 (by simp), fun b2 hb2 => ⟨small50 (by simp), fun b3 hb3 => ?_⟩⟩⟩
    refine ⟨_, rfl, small50 (by simp), fun b4 hb4 => ⟨_, rfl, small50 (by simp), fun b5 hb5 => ⟨small50 (by simp), fun b6 hb6 => ⟨small50 (by simp), fun b7 hb7 => ⟨_, rfl, small50 (by simp), fun b8 hb8 => ⟨small50 (by simp), fun b9 hb9 => ⟨small50 (by simp), fun b10 hb10 => ⟨small50 (by simp), fun b11 hb11 => ⟨small50 (by simp), fun r hr' => ?_⟩⟩⟩⟩⟩⟩⟩⟩⟩
    have e1 := same_new (o := .tup [.str "name", .str x2]) hb1
    have e2 := same_new (o := .tup [.str "number", .int (c % 1000)]) hb2
    have e3 := same_new (o := .tup [.str "does", .str "<", .ref b1, .ref b2]) hb3
    have e4 := same_new (o := .tup []) hb4
    have e5 := same_new (o := .tup [.str "No", .ref b4, .ref p0]) hb5
    have e6 := same_new (o := .tup []) hb6
    have e7 := same_new (o := .tup [.str "number", .int 1]) hb7
    have e8 := same_new (o := .tup [.ref b7, .ref p0]) hb8
    have e9 := same_new (o := .tup [.str "shape", .str "Cons", .ref b8]) hb9
    have e10 := same_new (o := .tup [.str "Yes", .ref b6, .ref b9]) hb10
    have e11 := same_new (o := .tup [.ref b5, .ref b10]) hb11
    have e12 := same_new (o := .tup [.str "choose", .ref b3, .ref b11]) hr'
    have a11 := e12
    have a10 := e11.trans a11
    have a9 := e10.trans a10
    have a8 := e9.trans a9
    have a7 := e8.trans a8
    have a6 := e7.trans a7
    have a5 := e6.trans a6
    have a4 := e5.trans a5
    have a3 := e4.trans a4
    have a2 := e3.trans a3
    have a1 := e2.trans a2
    have a0 := e1.trans a1
    have te : ∀ d, Tm F0 _ (d + 1) (.ref p0) := fun d => ⟨p0, _, rfl, a0 _ _ upd_same, .name x1⟩
    have m1 : 0 ≤ c % 1000 ∧ c % 1000 < big := ⟨Int.emod_nonneg _ (by decide), Int.lt_of_lt_of_le (Int.emod_lt_of_pos _ (by decide)) (by decide)⟩
    refine q _ _ (s1.trans a0) ⟨r, _, rfl, upd_same, .choose _ b11 [.ref b5, .ref b10] ⟨b3, _, rfl, a3 _ _ upd_same, .does _ _ _ ⟨b1, _, rfl, a1 _ _ upd_same, .name _⟩ ⟨b2, _, rfl, a2 _ _ upd_same, .number _ m1.1 m1.2⟩⟩ (a11 _ _ upd_same) (by simp) fun v hv => ?_⟩
    simp only [List.mem_cons, List.not_mem_nil, or_false] at hv
    rcases hv with rfl | rfl
    · exact ⟨"No", b5, b4, _, [], rfl, a5 _ _ upd_same, a4 _ _ upd_same, te 4⟩
    · refine ⟨"Yes", b10, b6, _, [], rfl, a10 _ _ upd_same, a6 _ _ upd_same, ⟨b9, _, rfl, a9 _ _ upd_same, .shape _ b8 [.ref b7, .ref p0] (a8 _ _ upd_same) (by simp) (fun v hv => ?_) (by decide +kernel)⟩⟩
      simp only [List.mem_cons, List.not_mem_nil, or_false] at hv
      rcases hv with rfl | rfl
      · exact ⟨b7, _, rfl, a7 _ _ upd_same, .number _ (by decide) (by decide)⟩
      · exact te 3
  refine ⟨_, rfl, _, _, rfl, rfl, _, rfl, ifB (fun _ => ?_) (fun _ => ?_)⟩
  · refine ⟨_, rfl, _, rfl, pl, ps, m, rfl, hp1.at_, hp1.ne, by have := hp1.len; omega, fun v Hv sv tv => ?_⟩
    refine ⟨_, rfl, small50 (by simp), fun b1 hb1 => ⟨small50 (by simp), fun pe hpe' => ?_⟩⟩
    have e1 := same_new (o := .tup [v, .ref p0]) hb1
    have e2 := same_new (o := .tup [.str "shape", .str "Cons", .ref b1]) hpe'
    have a0 := e1.trans e2
    have sE := s1.trans (sv.trans a0)
    have hpe := hp.same sE
    have tE : Tm F0 _ 5 (.ref pe) := ⟨pe, _, rfl, upd_same, .shape _ b1 [v, .ref p0] (e2 _ _ upd_same) (by simp) (fun u hu => by
      simp only [List.mem_cons, List.not_mem_nil, or_false] at hu
      rcases hu with rfl | rfl
      · exact tm_same tv a0
      · exact ⟨p0, _, rfl, (sv.trans a0) _ _ upd_same, .name x1⟩) (by decide +kernel)⟩
    refine ⟨_, rfl, _, rfl, pl, ps, c, rfl, hpe.at_, hpe.ne, by have := hpe.len; omega, fun v Hv sv tv => ?_⟩
    refine ⟨_, rfl, small50 (by simp), fun b1 hb1 => ⟨small50 (by simp), fun r hr' => ?_⟩⟩
    have e1 := same_new (o := .tup [v, .ref pe]) hb1
    have e2 := same_new (o := .tup [.str "shape", .str "Cons", .ref b1]) hr'
    have a0 := e1.trans e2
    refine q _ _ (sE.trans (sv.trans a0)) ⟨r, _, rfl, upd_same, .shape _ b1 [v, .ref pe] (e2 _ _ upd_same) (by simp) (fun u hu => ?_) (by decide +kernel)⟩
    simp only [List.mem_cons, List.not_mem_nil, or_false] at hu
    rcases hu with rfl | rfl
    · exact (tm_same tv a0).up (by decide)
    · exact tm_same (tm_same tE sv) a0
  · have sE := s1
    have hpe := hp1
    have tE : Tm F0 (upd H p0 (.tup [.str "name", .str x1])) 5 (.ref p0) := ⟨p0, _, rfl, upd_same, .name x1⟩
    refine ⟨_, rfl, _, rfl, pl, ps, c, rfl, hpe.at_, hpe.ne, by have := hpe.len; omega, fun v Hv sv tv => ?_⟩
    refine ⟨_, rfl, small50 (by simp), fun b1 hb1 => ⟨small50 (by simp), fun r hr' => ?_⟩⟩
    have e1 := same_new (o := .tup [v, .ref p0]) hb1
    have e2 := same_new (o := .tup [.str "shape", .str "Cons", .ref b1]) hr'
    have a0 := e1.trans e2
    refine q _ _ (sE.trans (sv.trans a0)) ⟨r, _, rfl, upd_same, .shape _ b1 [v, .ref p0] (e2 _ _ upd_same) (by simp) (fun u hu => ?_) (by decide +kernel)⟩
    simp only [List.mem_cons, List.not_mem_nil, or_false] at hu
    rcases hu with rfl | rfl
    · exact (tm_same tv a0).up (by decide)
    · exact tm_same (tm_same tE sv) a0
end
end W83

namespace W83
open PySem PySem.Spec PyProof.Rows L2
abbrev N_L_bindings : List Str := ["_law_cells_here", "_law_letter", "_law_outer", "_law_ends", "_law_many", "_law_names", "_law_k", "_law_last", "_law_pairs", "_law_pool", "_law_turn"]
abbrev P_L_bindings : List Str := ["_law_cells_here", "_law_letter", "_law_outer", "_law_ends"]
theorem sc_L_bindings : FnScope N_L_bindings P_L_bindings d_L_bindings.scope := ⟨rfl, rfl, rfl, by decide +kernel, rfl, by decide +kernel, by decide +kernel⟩

structure StrsAt (H : Hp) (a : Addr) (xs : List Str) (n : Nat) : Prop where
  at_ : H a = some (.lst (xs.map V.str))
  len : xs.length ≤ n
theorem StrsAt.same {H H' : Hp} {a : Addr} {xs : List Str} {n : Nat} (h : StrsAt H a xs n) (s : Same H H') : StrsAt H' a xs n := ⟨s _ _ h.at_, h.len⟩
structure CellsAt (H : Hp) (a : Addr) (cs : List Int) (n : Nat) : Prop where
  at_ : H a = some (.lst (cs.map V.int))
  len : n ≤ cs.length
theorem CellsAt.same {H H' : Hp} {a : Addr} {xs : List Int} {n : Nat} (h : CellsAt H a xs n) (s : Same H H') : CellsAt H' a xs n := ⟨s _ _ h.at_, h.len⟩
theorem CellsAt.get {H : Hp} {a : Addr} {cs : List Int} {n : Nat} (h : CellsAt H a cs n) {i : Nat} (hi : i < n) : ∃ c, atI (cs.map V.int) ((i : Nat) : Int) = some (.int c) := by
  have hl := h.len
  have hlt : i < cs.length := by omega
  exact ⟨cs[i], at_get (by rw [List.getElem?_map, List.getElem?_eq_getElem hlt]; rfl)⟩
def spBind : Sp := fun vs H Q _ => ∃ (ca oa ea : Addr) (cs : List Int) (os es : List Str) (letter : Str), vs = [.ref ca, .str letter, .ref oa, .ref ea] ∧ CellsAt H ca cs 7 ∧ letter.length ≤ 1 ∧ StrsAt H oa os 10 ∧ StrsAt H ea es 10 ∧
  ∀ (r na ta : Addr) (last : Str) (ns : List Str) (prs : List V) (H' : Hp), Same H H' → H' r = some (.tup [.ref na, .str last, .ref ta]) → StrsAt H' na ns 4 → ns ≠ [] → H' ta = some (.tup prs) → prs.length ≤ 5 → (∀ v ∈ prs, Prr H' (Tm F0 H' 6) v) → Q (.ref r) H'
section
variable {P : Program} {w : World} {K : PySem.W.Frag} {mg : Str → Option Value} {base : Heap}
theorem cut_to (ns : List Str) (k : Nat) (h : k ≤ ns.length) : cutV (ns.map V.str) none (some ((k : Nat) : Int)) = (ns.take k).map V.str := by
  unfold cutV
  rw [HT.sIx_nat, HT.sIx_none, List.length_map, Nat.min_eq_left h]
  simp [List.map_take]
theorem at_get' {xs : List V} {i : Nat} {v : V} (h : xs[i]? = some v) : atI xs ((0 : Int) + ((i : Nat) : Int)) = some v := by
  rw [Int.zero_add]
  exact at_get h
theorem cut_turn (xs : List V) (k : Nat) : (cutV xs (some ((k : Nat) : Int)) none).length + (cutV xs none (some ((k : Nat) : Int))).length = xs.length := by
  unfold cutV
  rw [HT.sIx_nat, HT.sIx_none, HT.sIx_nat, HT.sIx_none]
  simp only [List.length_take, List.length_drop]
  omega
def nmf (letter : Str) (i : Nat) : List Str := (List.range i).map fun k => letter ++ Str.ofString (toString ((0 : Int) + ((k : Nat) : Int)))
theorem nmf_len (letter : Str) (i : Nat) : (nmf letter i).length = i := by simp [nmf]
theorem nmf_succ (letter : Str) (i : Nat) : nmf letter (i + 1) = nmf letter i ++ [letter ++ Str.ofString (toString ((0 : Int) + ((i : Nat) : Int)))] := by
  simp [nmf, List.range_succ]
theorem nmf_at (letter : Str) {i n : Nat} (h : i < n) : (nmf letter n)[i]? = some (letter ++ Str.ofString (toString ((0 : Int) + ((i : Nat) : Int)))) := by
  unfold nmf
  rw [List.getElem?_map, List.getElem?_range h]
  rfl
theorem ok_bind (T : Top K mg) : Keeps P w K mg base CX0 4 d_L_bindings P_L_bindings spBind := by
  obtain ⟨fd, F, bd⟩ := T.f_L_bindings
  obtain ⟨_, G_L_expr⟩ := ok_expr (P := P) (w := w) (base := base) T
  obtain ⟨_, G_L_list⟩ := ok_list (P := P) (w := w) (base := base) T
  refine keeps0 F bd sc_L_bindings (fun vs H Q E h => ?_) (fun cdv AA outer sh H vs Q E hr h => ?_)
  · obtain ⟨ca, oa, ea, cs, os, es, letter, rfl, _⟩ := h
    rfl
  obtain ⟨ca, oa, ea, cs, os, es, letter, rfl, hc, hlet, ho, he, q⟩ := h
  refine ⟨_, (pss_cons (ps_set (i := 4) sc_L_bindings.nd rfl (Or.inl rfl) (pe_op op_add pe_int (pe_op op_mod (pe_ix ix_list (pv 0) pe_int (fun _ _ => rfl)) pe_int)))
    (pss_cons (ps_setLc (i := 5) (own := [("_law_k", 6)]) (g := gName 6) rfl sc_L_bindings.nd rfl rfl (sw_true rfl rfl rfl (by decide +kernel)) (pi_range1 rfl T.z_range (pa_cons (pv 4) pa_nil)) (blkOk_by (own := [("_law_k", 6)]) (N := N_L_bindings) (sc := d_L_bindings.scope) (by decide +kernel)) (fun _ _ _ _ _ => (pg_name (i := 6) sc_L_bindings.nd rfl (Or.inl rfl))) (fun _ _ _ _ _ => pts_nil) (fun _ _ _ _ _ => (pe_op op_add_str (pv 1) (pe_callTy call_str_int (by rfl) T.z_str (by decide +kernel) (pa_cons (pv 6) pa_nil)))))
    (pss_cons (ps_set (i := 7) sc_L_bindings.nd rfl (Or.inl rfl) (pe_op op_add_str (pv 1) pe_str))
    (pss_cons (ps_set (i := 8) sc_L_bindings.nd rfl (Or.inl rfl) (pe_lst pa_nil))
    (pss_cons (ps_for PassesOwn.never rfl (pi_range1 rfl T.z_range (pa_cons (pv 4) pa_nil)) (pg_name (i := 6) sc_L_bindings.nd rfl (Or.inl rfl))
    (pss_cons (ps_set (i := 9) sc_L_bindings.nd rfl (Or.inl rfl) (pe_op op_cat (pv 2) (pe_slice sl_list (pv 5) po_none (po_some (pv 6)))))
    (pss_cons (ps_if (PW.pt (pw_or (pt_cmpR op_eq (pe_callB call_len_seq (by rfl) T.z_len PySem.boot_len (pa_cons (pv 9) pa_nil)) pe_int (nomark _)) (pw_or1 (pt_cmpR op_eq (pe_op op_mod (pe_ix ix_list (pv 0) (pe_op op_add (pv 6) pe_int) (fun _ _ => rfl)) pe_int) pe_int (nomark _)))))
    (pss_one (ps_set (i := 9) sc_L_bindings.nd rfl (Or.inl rfl) (pe_op op_cat (pv 2) (pv 5))))
    pss_nil)
    (pss_one (ps_expr (pe_bm PySem.F.plainAttrs_list PySem.F.slot_list_append PySem.F.type_list_append mt_append (pv 8) (pa_cons (pe_tup (pa_cons (pe_ix ix_list (pv 5) (pv 6) (fun _ _ => rfl)) (pa_cons (pe_call G_L_expr.ok (hr.mono (by decide)) rfl T.g_law_expr G_L_expr.kp G_L_expr.bd .nil pass0 (pa_cons (pv 9) (pa_cons (pe_ix ix_list (pv 0) (pe_op op_add (pv 6) pe_int) (fun _ _ => rfl)) pa_nil))) pa_nil))) pa_nil)))))))
    (pss_cons (ps_expr (pe_bm PySem.F.plainAttrs_list PySem.F.slot_list_append PySem.F.type_list_append mt_append (pv 8) (pa_cons (pe_tup (pa_cons (pv 7) (pa_cons (pe_call G_L_list.ok (hr.mono (by decide)) rfl T.g_law_list G_L_list.kp G_L_list.bd .nil pass0 (pa_cons (pe_op op_cat (pv 2) (pv 5)) (pa_cons (pe_op op_cat (pv 3) (pe_lst (pa_cons (pv 7) pa_nil))) (pa_cons (pe_ix ix_list (pv 0) pe_int (fun _ _ => rfl)) (pa_cons (pe_ix ix_list (pv 0) pe_int (fun _ _ => rfl)) pa_nil))))) pa_nil))) pa_nil)))
    (pss_cons (ps_set (i := 10) sc_L_bindings.nd rfl (Or.inl rfl) (pe_op op_mod (pe_op op_fdiv (pe_ix ix_list (pv 0) pe_int (fun _ _ => rfl)) pe_int) (pe_op op_add (pv 4) pe_int)))
    (pss_one (ps_ret (pe_tup (pa_cons (pv 5) (pa_cons (pv 7) (pa_cons (pe_callTy call_tuple_of (by rfl) T.z_tuple (by decide +kernel) (pa_cons (pe_op op_cat (pe_slice sl_list (pv 8) (po_some (pv 10)) po_none) (pe_slice sl_list (pv 8) po_none (po_some (pv 10)))) pa_nil)) pa_nil))))))))))))), ?_⟩
  obtain ⟨c0, hc0⟩ := hc.get (i := 0) (by decide)
  refine ⟨_, rfl, ca, _, _, _, rfl, rfl, SqL.of hc.at_, hc0, _, _, rfl, rfl, (by decide : (0 : Int) < 4), _, _, rfl, rfl, ?_⟩
  have m0 : 0 ≤ c0 % 4 := Int.emod_nonneg _ (by decide)
  have m1 : c0 % 4 < 4 := Int.emod_lt_of_pos _ (by decide)
  obtain ⟨N, hN⟩ : ∃ N : Nat, ((N : Nat) : Int) = 1 + c0 % 4 := ⟨(1 + c0 % 4).toNat, Int.toNat_of_nonneg (by omega)⟩
  rw [show ((fun i j => V.int (i + j)) 1 (c0 % 4) : V) = .int ((N : Nat) : Int) from by rw [hN]]
  have hN1 : 1 ≤ N := by omega
  have hN4 : N ≤ 4 := by omega
  refine ⟨_, rfl, _, rfl, by omega, by omega, fun B hB => ?_⟩
  refine lc_range (n := ((N : Nat) : Int).toNat) (fun i G => Same H G ∧ G B = some (.lst ((nmf letter i).map V.str))) ⟨same_new hB, upd_same⟩ ?_ ?_
  · rintro i G hi ⟨sG, gB⟩
    have hi : i < N := by omega
    have sh := PyProof.Rows.shown (a := (0 : Int) + (i : Int)) (N := 1000) (by omega) (by omega) (by decide)
    have stl : (Str.ofString (toString ((0 : Int) + (i : Int)))).length ≤ 3 := PyProof.Rows.toString_length_le (by omega) (by decide) (by omega)
    refine ⟨rfl, ?_⟩
    refine ⟨_, rfl, _, rfl, _, rfl, sh, _, _, rfl, rfl, small50 (by omega), _, gB, small9 (by rw [List.length_map, nmf_len]; omega), same_grow sG hB, ?_⟩
    rw [upd_same, nmf_succ, List.map_append]
    rfl
  rintro G ⟨sG, gB⟩
  have eN : ((N : Nat) : Int).toNat = N := by omega
  rw [eN] at gB
  refine ⟨_, rfl, _, _, rfl, rfl, small50 (by have : ("s" : Str).length = 1 := by decide +kernel
                                              omega), ?_⟩
  refine ⟨small50 (by simp), fun Lp hLp => ?_⟩
  have s2 := same_new (o := .lst []) hLp
  have hlen := nmf_len letter N
  refine ⟨_, rfl, _, rfl, by omega, by omega, for_range (n := ((N : Nat) : Int).toNat)
    (fun i σ G' => ∃ v6 v9 v10, σ = [some (.ref ca), some (.str letter), some (.ref oa), some (.ref ea), some (.int ((N : Nat) : Int)), some (.ref B), v6, some (.str (letter ++ "s")), some (.ref Lp), v9, v10] ∧ Same G G' ∧ ∃ prs, G' Lp = some (.lst prs) ∧ prs.length = i ∧ ∀ v ∈ prs, Prr G' (Tm F0 G' 6) v)
    ⟨_, _, _, rfl, s2, [], upd_same, rfl, fun v hv => by cases hv⟩ ?_ ?_⟩
  · rintro i σ G' hi ⟨v6, v9, v10, rfl, sG', prs, gL, lp, hprs⟩
    have hi : i < N := by omega
    have s02 := sG.trans sG'
    have gB2 := sG' _ _ gB
    have hm := nmf_at letter hi
    have tk : ((nmf letter N).take i).length ≤ 4 := by rw [List.length_take]; omega
    refine ⟨_, rfl, _, rfl, _, rfl, _, rfl, B, _, rfl, SqL.of gB2, fun p1 hp1 => ?_⟩
    have ecut : cutV ((nmf letter N).map V.str) none (some ((0 : Int) + ((i : Nat) : Int))) = ((nmf letter N).take i).map V.str := by
      rw [Int.zero_add]
      exact cut_to _ _ (by omega)
    have e1 := same_new (o := .lst (cutV ((nmf letter N).map V.str) none (some ((0 : Int) + ((i : Nat) : Int))))) hp1
    have ho1 := (ho.same s02).same e1
    have hol := ho.len
    have lc : (cutV ((nmf letter N).map V.str) none (some ((0 : Int) + ((i : Nat) : Int)))).length ≤ 4 := by rw [ecut, List.length_map]; omega
    refine ⟨oa, p1, _, _, rfl, rfl, ho1.at_, upd_same, by rw [sizeLine_eq, List.length_map]; omega, fun p2 hp2 => ?_⟩
    have e2 := same_new (o := .lst (os.map V.str ++ cutV ((nmf letter N).map V.str) none (some ((0 : Int) + ((i : Nat) : Int))))) hp2
    have e12 := e1.trans e2
    obtain ⟨G2, hG2⟩ : ∃ G2, G2 = upd (upd G' p1 (.lst (cutV ((nmf letter N).map V.str) none (some ((0 : Int) + ((i : Nat) : Int)))))) p2 (.lst (os.map V.str ++ cutV ((nmf letter N).map V.str) none (some ((0 : Int) + ((i : Nat) : Int))))) := ⟨_, rfl⟩
    have g2 : G2 p2 = some (.lst ((os ++ (nmf letter N).take i).map V.str)) := by rw [hG2, upd_same, ecut, List.map_append]
    rw [← hG2] at e12
    rw [← hG2]
    have hc2 := (hc.same s02).same e12
    have ho2 := (ho.same s02).same e12
    have gB3 := e12 _ _ gB2
    have gL3 := e12 _ _ gL
    have lpool : (os ++ (nmf letter N).take i).length ≤ 14 := by rw [List.length_append]; omega
    obtain ⟨ck, hck⟩ : ∃ ck, atI (cs.map V.int) ((0 : Int) + ((i : Nat) : Int) + 1) = some (.int ck) := by
      obtain ⟨ck, h⟩ := hc.get (i := i + 1) (by omega)
      exact ⟨ck, by rw [← h]; congr 1; omega⟩
    have pool2 : ∀ p3, G2 p3 = none → Same G2 (upd G2 p3 (.lst (os.map V.str ++ (nmf letter N).map V.str))) ∧ (upd G2 p3 (.lst (os.map V.str ++ (nmf letter N).map V.str))) p3 = some (.lst ((os ++ nmf letter N).map V.str)) := fun p3 h3 => ⟨same_new h3, by rw [upd_same, List.map_append]⟩
    have ne3 : os ++ nmf letter N ≠ [] := fun z => by
      have := congrArg List.length z
      rw [List.length_append, hlen] at this
      simp at this
      omega
    have l3 : (os ++ nmf letter N).length ≤ 1000 := by rw [List.length_append]; omega
    refine ⟨_, rfl, p2, _, rfl, .inl (SqL.of g2), rfl, _, rfl, ifB (fun hz => ?_) (fun hz => ?_)⟩
    · refine ifT rfl ?_
      refine ⟨_, rfl, _, rfl, oa, B, _, _, rfl, rfl, ho2.at_, gB3, by rw [sizeLine_eq, List.length_map, List.length_map]; omega, fun p3 hp3 => ?_⟩
      obtain ⟨e3, hpool⟩ := pool2 p3 hp3
      have gLx := e3 _ _ gL3
      have gBx := e3 _ _ gB3
      have hcx := hc2.same e3
      have hpne := ne3
      have hplen := l3
      have sY := e12.trans e3
      have sX := sG'.trans sY
      refine ⟨_, rfl, .inl ⟨rfl, _, SqL.of gLx⟩, _, rfl, _, rfl, B, _, _, _, rfl, rfl, SqL.of gBx, at_get' (by rw [List.getElem?_map, hm]; rfl), ?_⟩
      refine ⟨_, rfl, _, rfl, _, rfl, _, _, rfl, rfl, ca, _, _, _, rfl, rfl, SqL.of hcx.at_, hck, p3, _, ck, rfl, hpool, hpne, hplen, fun v H5 s5 t5 => ?_⟩
      refine ⟨small50 (by simp), fun u hu => ?_⟩
      have e6 := same_new (o := .tup [.str (letter ++ Str.ofString (toString ((0 : Int) + ((i : Nat) : Int)))), v]) hu
      have s56 := s5.trans e6
      have gL6 := s56 _ _ gLx
      refine ⟨Lp, _, _, rfl, rfl, gL6, small9 (by omega), ?_⟩
      have st := sty_off (o := .lst (prs ++ [.ref u])) (.inl ⟨_, gL6⟩)
      refine ⟨_, _, _, rfl, same_grow (sX.trans s56) hLp, prs ++ [.ref u], upd_same, by rw [List.length_append, lp]; rfl, fun z hz => ?_⟩
      rcases List.mem_append.mp hz with h | h
      · exact prr_keep (prr_same (prr_same (hprs z h) sY) s56) st.1
      · rw [List.mem_singleton.mp h]
        exact ⟨u, _, v, rfl, st.1 _ _ upd_same, ((tm_same t5 e6).up (by decide)).keep st.1⟩
    · refine ⟨_, rfl, _, rfl, _, _, rfl, rfl, ca, _, _, _, rfl, rfl, SqL.of hc2.at_, hck, _, _, rfl, rfl, (by decide : (0 : Int) < 5), rfl, _, rfl, ifB (fun _ => ?_) (fun _ => ?_)⟩
      ·
        refine ⟨_, rfl, _, rfl, oa, B, _, _, rfl, rfl, ho2.at_, gB3, by rw [sizeLine_eq, List.length_map, List.length_map]; omega, fun p3 hp3 => ?_⟩
        obtain ⟨e3, hpool⟩ := pool2 p3 hp3
        have gLx := e3 _ _ gL3
        have gBx := e3 _ _ gB3
        have hcx := hc2.same e3
        have hpne := ne3
        have hplen := l3
        have sY := e12.trans e3
        have sX := sG'.trans sY
        refine ⟨_, rfl, .inl ⟨rfl, _, SqL.of gLx⟩, _, rfl, _, rfl, B, _, _, _, rfl, rfl, SqL.of gBx, at_get' (by rw [List.getElem?_map, hm]; rfl), ?_⟩
        refine ⟨_, rfl, _, rfl, _, rfl, _, _, rfl, rfl, ca, _, _, _, rfl, rfl, SqL.of hcx.at_, hck, p3, _, ck, rfl, hpool, hpne, hplen, fun v H5 s5 t5 => ?_⟩
        refine ⟨small50 (by simp), fun u hu => ?_⟩
        have e6 := same_new (o := .tup [.str (letter ++ Str.ofString (toString ((0 : Int) + ((i : Nat) : Int)))), v]) hu
        have s56 := s5.trans e6
        have gL6 := s56 _ _ gLx
        refine ⟨Lp, _, _, rfl, rfl, gL6, small9 (by omega), ?_⟩
        have st := sty_off (o := .lst (prs ++ [.ref u])) (.inl ⟨_, gL6⟩)
        refine ⟨_, _, _, rfl, same_grow (sX.trans s56) hLp, prs ++ [.ref u], upd_same, by rw [List.length_append, lp]; rfl, fun z hz => ?_⟩
        rcases List.mem_append.mp hz with h | h
        · exact prr_keep (prr_same (prr_same (hprs z h) sY) s56) st.1
        · rw [List.mem_singleton.mp h]
          exact ⟨u, _, v, rfl, st.1 _ _ upd_same, ((tm_same t5 e6).up (by decide)).keep st.1⟩
      · have hpool := g2
        have hpne : os ++ (nmf letter N).take i ≠ [] := fun z => by
          rw [z] at hz
          exact absurd hz (by decide +kernel)
        have hplen : (os ++ (nmf letter N).take i).length ≤ 1000 := by omega
        have gLx := gL3
        have gBx := gB3
        have hcx := hc2
        have sY := e12
        have sX := sG'.trans sY
        refine ⟨_, rfl, .inl ⟨rfl, _, SqL.of gLx⟩, _, rfl, _, rfl, B, _, _, _, rfl, rfl, SqL.of gBx, at_get' (by rw [List.getElem?_map, hm]; rfl), ?_⟩
        refine ⟨_, rfl, _, rfl, _, rfl, _, _, rfl, rfl, ca, _, _, _, rfl, rfl, SqL.of hcx.at_, hck, p2, _, ck, rfl, hpool, hpne, hplen, fun v H5 s5 t5 => ?_⟩
        refine ⟨small50 (by simp), fun u hu => ?_⟩
        have e6 := same_new (o := .tup [.str (letter ++ Str.ofString (toString ((0 : Int) + ((i : Nat) : Int)))), v]) hu
        have s56 := s5.trans e6
        have gL6 := s56 _ _ gLx
        refine ⟨Lp, _, _, rfl, rfl, gL6, small9 (by omega), ?_⟩
        have st := sty_off (o := .lst (prs ++ [.ref u])) (.inl ⟨_, gL6⟩)
        refine ⟨_, _, _, rfl, same_grow (sX.trans s56) hLp, prs ++ [.ref u], upd_same, by rw [List.length_append, lp]; rfl, fun z hz => ?_⟩
        rcases List.mem_append.mp hz with h | h
        · exact prr_keep (prr_same (prr_same (hprs z h) sY) s56) st.1
        · rw [List.mem_singleton.mp h]
          exact ⟨u, _, v, rfl, st.1 _ _ upd_same, ((tm_same t5 e6).up (by decide)).keep st.1⟩
  rintro σ G' ⟨v6, v9, v10, rfl, sG', prs, gL, lp, hprs⟩
  rw [eN] at lp
  have sHG := sG.trans sG'
  have hc1 := hc.same sHG
  have ho1 := ho.same sHG
  have he1 := he.same sHG
  have gB1 := sG' _ _ gB
  have hol := ho.len
  have hel := he.len
  obtain ⟨c5, hc5⟩ := hc.get (i := 5) (by decide)
  obtain ⟨c6, hc6⟩ := hc.get (i := 6) (by decide)
  refine ⟨_, rfl, .inl ⟨rfl, _, SqL.of gL⟩, _, rfl, ⟨_, rfl, _, rfl, oa, B, _, _, rfl, rfl, ho1.at_, gB1, by rw [sizeLine_eq, List.length_map, List.length_map]; omega, fun p3 hp3 => ?_⟩⟩
  have e3 := same_new (o := .lst (os.map V.str ++ (nmf letter N).map V.str)) hp3
  refine ⟨_, rfl, _, rfl, small50 (by simp), fun p4 hp4 => ?_⟩
  have e4 := same_new (o := .lst [.str (letter ++ "s")]) hp4
  have he4 := (he1.same e3).same e4
  refine ⟨ea, p4, _, _, rfl, rfl, he4.at_, upd_same, by rw [sizeLine_eq, List.length_map]; simp; omega, fun p5 hp5 => ?_⟩
  have e5 := same_new (o := .lst (es.map V.str ++ [.str (letter ++ "s")])) hp5
  have e35 := e3.trans (e4.trans e5)
  have hc5' := hc1.same e35
  refine ⟨_, rfl, ca, _, _, _, rfl, rfl, SqL.of hc5'.at_, hc5, ⟨_, rfl, ca, _, _, _, rfl, rfl, SqL.of hc5'.at_, hc6, ?_⟩⟩
  have g3 : (upd (upd (upd G' p3 (.lst (os.map V.str ++ (nmf letter N).map V.str))) p4 (.lst [.str (letter ++ "s")])) p5 (.lst (es.map V.str ++ [.str (letter ++ "s")]))) p3 = some (.lst ((os ++ nmf letter N).map V.str)) := (e4.trans e5) _ _ (by rw [upd_same, List.map_append])
  have g5 : (upd (upd (upd G' p3 (.lst (os.map V.str ++ (nmf letter N).map V.str))) p4 (.lst [.str (letter ++ "s")])) p5 (.lst (es.map V.str ++ [.str (letter ++ "s")]))) p5 = some (.lst ((es ++ [letter ++ "s"]).map V.str)) := by rw [upd_same, List.map_append]; rfl
  have hpA : PoolAt _ p3 (os ++ nmf letter N) := ⟨g3, fun z => by
    have := congrArg List.length z
    rw [List.length_append, hlen] at this
    simp at this
    omega, by rw [List.length_append]; omega⟩
  have hpB : PoolAt _ p5 (es ++ [letter ++ "s"]) := ⟨g5, by simp, by rw [List.length_append]; simp; omega⟩
  refine ⟨p3, p5, _, _, c5, c6, rfl, hpA, hpB, fun v H6 s6 t6 => ?_⟩
  refine ⟨small50 (by simp), fun u hu => ?_⟩
  have e7 := same_new (o := .tup [.str (letter ++ "s"), v]) hu
  have s7 := e35.trans (s6.trans e7)
  have gL7 := s7 _ _ gL
  refine ⟨Lp, _, _, rfl, rfl, gL7, small9 (by omega), ?_⟩
  have st := sty_off (o := .lst (prs ++ [.ref u])) (.inl ⟨_, gL7⟩)
  have s8 := same_grow (o := .lst (prs ++ [.ref u])) (sG'.trans s7) hLp
  have gB8 := s8 _ _ gB
  have hc8 := hc.same (sG.trans s8)
  have hprs8 : ∀ z ∈ prs ++ [.ref u], Prr _ (Tm F0 _ 6) z := fun z hz => by
    rcases List.mem_append.mp hz with h | h
    · exact prr_keep (prr_same (hprs z h) s7) st.1
    · rw [List.mem_singleton.mp h]
      exact ⟨u, _, v, rfl, st.1 _ _ upd_same, (tm_same t6 e7).keep st.1⟩
  refine ⟨_, rfl, ca, _, _, _, rfl, rfl, SqL.of hc8.at_, hc0, _, _, rfl, rfl, ⟨by decide, by decide⟩, ⟨_, rfl, _, _, rfl, rfl, _, _, rfl, rfl, (show (0 : Int) < ((N : Nat) : Int) + 1 by omega), ?_⟩⟩
  obtain ⟨k, hk⟩ : ∃ k : Nat, c0 / 4 % (((N : Nat) : Int) + 1) = ((k : Nat) : Int) := ⟨_, (Int.toNat_of_nonneg (Int.emod_nonneg _ (by omega))).symm⟩
  have ek : ((fun i j => V.int (i % j)) (c0 / 4) (((N : Nat) : Int) + 1) : V) = .int ((k : Nat) : Int) := by rw [← hk]
  rw [ek]
  have gL8 : (upd _ Lp (.lst (prs ++ [.ref u]))) Lp = some (.lst (prs ++ [.ref u])) := upd_same (H := upd H6 u (.tup [.str (letter ++ "s"), v]))
  refine ⟨_, rfl, _, rfl, _, rfl, _, rfl, _, rfl, Lp, _, rfl, SqL.of upd_same, fun q1 hq1 => ?_⟩
  have f1 := same_new (o := .lst (cutV (prs ++ [.ref u]) (some ((k : Nat) : Int)) none)) hq1
  refine ⟨_, rfl, _, rfl, _, rfl, Lp, _, rfl, SqL.of (f1 _ _ upd_same), fun q2 hq2 => ?_⟩
  have f2 := same_new (o := .lst (cutV (prs ++ [.ref u]) none (some ((k : Nat) : Int)))) hq2
  have lct := cut_turn (prs ++ [.ref u]) k
  have lpu : (prs ++ [V.ref u]).length = N + 1 := by rw [List.length_append, lp]; rfl
  refine ⟨q1, q2, _, _, rfl, rfl, f2 _ _ upd_same, upd_same, by rw [sizeLine_eq]; omega, fun q3 hq3 => ?_⟩
  have f3 := same_new (o := .lst (cutV (prs ++ [.ref u]) (some ((k : Nat) : Int)) none ++ cutV (prs ++ [.ref u]) none (some ((k : Nat) : Int)))) hq3
  refine ⟨q3, _, rfl, .inl ⟨SqL.of upd_same, fun ta hta => ?_⟩⟩
  have f4 := same_new (o := .tup (cutV (prs ++ [.ref u]) (some ((k : Nat) : Int)) none ++ cutV (prs ++ [.ref u]) none (some ((k : Nat) : Int)))) hta
  refine ⟨small50 (by simp), fun r hr' => ?_⟩
  have f5 := same_new (o := .tup [.ref B, .str (letter ++ "s"), .ref ta]) hr'
  have fa := f1.trans (f2.trans (f3.trans (f4.trans f5)))
  refine q r B ta (letter ++ "s") (nmf letter N) (cutV (prs ++ [.ref u]) (some ((k : Nat) : Int)) none ++ cutV (prs ++ [.ref u]) none (some ((k : Nat) : Int))) _ ((sG.trans s8).trans fa) upd_same ⟨fa _ _ gB8, by omega⟩ (fun z => ?_) (f5 _ _ upd_same) (by rw [List.length_append]; omega) (fun z hz => ?_)
  · have := congrArg List.length z
    rw [hlen] at this
    simp at this
    omega
  · have hz' : z ∈ prs ++ [.ref u] := by
      rcases List.mem_append.mp hz with h | h
      · exact cutV_mem h
      · exact cutV_mem h
    exact prr_same (hprs8 z hz') fa
end
end W83

namespace W83
open PySem PySem.Spec PyProof.Rows L2
abbrev N_L_graph : List Str := ["_law_cells_here", "_law_one", "_law_other", "_law_pool", "_law_body", "_law_cell"]
abbrev P_L_graph : List Str := ["_law_cells_here"]
theorem sc_L_graph : FnScope N_L_graph P_L_graph d_L_graph.scope := ⟨rfl, rfl, rfl, by decide +kernel, rfl, by decide +kernel, by decide +kernel⟩

def spGraph : Sp := fun vs H Q _ => ∃ (ca : Addr) (cs : List Int), vs = [.ref ca] ∧ CellsAt H ca cs 15 ∧ cs.length ≤ 21 ∧ ∀ (v : V) (H' : Hp), Same H H' → Tm F0 H' 12 v → Q v H'
section
variable {P : Program} {w : World} {K : PySem.W.Frag} {mg : Str → Option Value} {base : Heap}
theorem cutV_take {xs : List V} {k : Nat} (h : k ≤ xs.length) : cutV xs none (some ((k : Nat) : Int)) = xs.take k := by
  unfold cutV
  rw [HT.sIx_nat, HT.sIx_none, Nat.min_eq_left h]
  simp
theorem cutV_drop {xs : List V} {k : Nat} (h : k ≤ xs.length) : cutV xs (some ((k : Nat) : Int)) none = xs.drop k := by
  unfold cutV
  rw [HT.sIx_nat, HT.sIx_none, Nat.min_eq_left h, List.take_of_length_le (by simp)]
theorem cutV_mid {xs : List V} {j k : Nat} (hj : j ≤ xs.length) (hk : k ≤ xs.length) : cutV xs (some ((j : Nat) : Int)) (some ((k : Nat) : Int)) = (xs.drop j).take (k - j) := by
  unfold cutV
  rw [HT.sIx_nat, HT.sIx_nat, Nat.min_eq_left hj, Nat.min_eq_left hk]
theorem at_two (x y : V) (r : Int) : ∃ z, (z = x ∨ z = y) ∧ atI [x, y] (r % 2) = some z := by
  have h0 : 0 ≤ r % 2 := Int.emod_nonneg _ (by decide)
  have h1 : r % 2 < 2 := Int.emod_lt_of_pos _ (by decide)
  by_cases h : r % 2 = 0
  · exact ⟨x, .inl rfl, by rw [h]; rfl⟩
  · have : r % 2 = 1 := by omega
    exact ⟨y, .inr rfl, by rw [this]; rfl⟩
theorem mod10 (r : Int) : 0 ≤ r % 10 ∧ r % 10 < 10 := ⟨Int.emod_nonneg _ (by decide), Int.emod_lt_of_pos _ (by decide)⟩
theorem ok_graph (T : Top K mg) : Keeps P w K mg base CX0 5 d_L_graph P_L_graph spGraph := by
  obtain ⟨fd, F, bd⟩ := T.f_L_graph
  obtain ⟨_, G_L_bindings⟩ := ok_bind (P := P) (w := w) (base := base) T
  obtain ⟨_, G_L_expr⟩ := ok_expr (P := P) (w := w) (base := base) T
  refine keeps0 F bd sc_L_graph (fun vs H Q E h => ?_) (fun cdv AA outer sh H vs Q E hr h => ?_)
  · obtain ⟨ca, cs, rfl, _⟩ := h
    rfl
  obtain ⟨ca, cs, rfl, hc, hl, q⟩ := h
  refine ⟨_, (pss_cons (ps_set (i := 1) sc_L_graph.nd rfl (Or.inl rfl) (pe_call G_L_bindings.ok (hr.mono (by decide)) rfl T.g_law_bindings G_L_bindings.kp G_L_bindings.bd .nil pass0 (pa_cons (pe_slice sl_list (pv 0) po_none (po_some pe_int)) (pa_cons (pe_item_str pe_str (pe_op op_mod (pe_ix ix_list (pv 0) pe_int (fun _ _ => rfl)) pe_int) (fun _ _ => rfl)) (pa_cons (pe_lst pa_nil) (pa_cons (pe_lst pa_nil) pa_nil))))))
    (pss_cons (ps_set (i := 2) sc_L_graph.nd rfl (Or.inl rfl) (pe_call G_L_bindings.ok (hr.mono (by decide)) rfl T.g_law_bindings G_L_bindings.kp G_L_bindings.bd .nil pass0 (pa_cons (pe_slice sl_list (pv 0) (po_some pe_int) (po_some pe_int)) (pa_cons (pe_item_str pe_str (pe_op op_mod (pe_op op_fdiv (pe_ix ix_list (pv 0) pe_int (fun _ _ => rfl)) pe_int) pe_int) (fun _ _ => rfl)) (pa_cons (pe_ix ix_tup (pv 1) pe_int (fun _ _ => rfl)) (pa_cons (pe_lst (pa_cons (pe_ix ix_tup (pv 1) pe_int (fun _ _ => rfl)) pa_nil)) pa_nil))))))
    (pss_cons (ps_set (i := 3) sc_L_graph.nd rfl (Or.inl rfl) (pe_op op_cat (pe_ix ix_tup (pv 1) pe_int (fun _ _ => rfl)) (pe_ix ix_tup (pv 2) pe_int (fun _ _ => rfl))))
    (pss_cons (ps_set (i := 4) sc_L_graph.nd rfl (Or.inl rfl) (pe_tup (pa_cons pe_str (pa_cons (pe_ix ix_list (pe_lst (pa_cons (pe_ix ix_tup (pv 1) pe_int (fun _ _ => rfl)) (pa_cons (pe_ix ix_tup (pv 2) pe_int (fun _ _ => rfl)) pa_nil))) (pe_op op_mod (pe_op op_fdiv (pe_ix ix_list (pv 0) pe_int (fun _ _ => rfl)) pe_int) pe_int) (fun _ _ => rfl)) pa_nil))))
    (pss_cons (ps_if (pt_cmpR op_eq (pe_op op_mod (pe_op op_fdiv (pe_ix ix_list (pv 0) pe_int (fun _ _ => rfl)) pe_int) pe_int) pe_int (nomark _))
    (pss_one (ps_set (i := 4) sc_L_graph.nd rfl (Or.inl rfl) (pe_tup (pa_cons pe_str (pa_cons pe_str (pa_cons (pe_tup pa_nil) pa_nil))))))
    pss_nil)
    (pss_cons (ps_for PassesOwn.never rfl (pi_list (pe_slice sl_list (pv 0) (po_some pe_int) po_none)) (pg_name (i := 5) sc_L_graph.nd rfl (Or.inl rfl))
    (pss_one (ps_set (i := 4) sc_L_graph.nd rfl (Or.inl rfl) (pe_tup (pa_cons pe_str (pa_cons pe_str (pa_cons (pe_tup (pa_cons (pe_call G_L_expr.ok (hr.mono (by decide)) rfl T.g_law_expr G_L_expr.kp G_L_expr.bd .nil pass0 (pa_cons (pv 3) (pa_cons (pv 5) pa_nil))) (pa_cons (pv 4) pa_nil))) pa_nil)))))))
    (pss_one (ps_ret (pe_tup (pa_cons pe_str (pa_cons (pe_ix ix_tup (pv 1) pe_int (fun _ _ => rfl)) (pa_cons (pe_tup (pa_cons pe_str (pa_cons (pe_ix ix_tup (pv 2) pe_int (fun _ _ => rfl)) (pa_cons (pv 4) pa_nil)))) pa_nil)))))))))))), ?_⟩
  have lcs := hc.len
  obtain ⟨c14, h14⟩ := hc.get (i := 14) (by decide)
  -- one
  refine ⟨_, rfl, _, rfl, ca, _, rfl, SqL.of hc.at_, fun p1 hp1 => ?_⟩
  have ec1 : cutV (cs.map V.int) none (some 7) = (cs.take 7).map V.int := by rw [List.map_take]; exact cutV_take (k := 7) (by rw [List.length_map]; omega)
  have e1 := same_new (o := .lst (cutV (cs.map V.int) none (some 7))) hp1
  have hc1 := hc.same e1
  obtain ⟨i0, i1, i2, lc, hlc⟩ := str_ix ("abcdefghij" : Str) (n := 10) (by decide +kernel) (by decide) (mod10 c14).1 (mod10 c14).2
  refine ⟨_, rfl, ca, _, _, _, rfl, rfl, SqL.of hc1.at_, h14, _, _, rfl, rfl, (by decide : (0 : Int) < 10), _, _, _, rfl, rfl, i0, i1, i2, hlc, small50 (by simp), fun p2 hp2 => ⟨small50 (by simp), fun p3 hp3 => ?_⟩⟩
  have e2 := same_new (o := .lst []) hp2
  have e3 := same_new (o := .lst []) hp3
  have hb1 : CellsAt (upd H p1 (.lst (cutV (cs.map V.int) none (some 7)))) p1 (cs.take 7) 7 := ⟨by rw [upd_same, ec1], by rw [List.length_take]; omega⟩
  refine ⟨p1, p2, p3, cs.take 7, [], [], ⟨#[lc]⟩, rfl, (hb1.same e2).same e3, Nat.le_refl _, ⟨e3 _ _ upd_same, Nat.zero_le _⟩, ⟨upd_same, Nat.zero_le _⟩, fun r1 na ta last ns prs H4 s4 g4 hna hnn hta lpr hpr => ?_⟩
  have s04 := e1.trans (e2.trans (e3.trans s4))
  have hc4 := hc.same s04
  -- other
  refine ⟨_, rfl, _, rfl, _, rfl, ca, _, rfl, SqL.of hc4.at_, fun p5 hp5 => ?_⟩
  have ec2 : cutV (cs.map V.int) (some 7) (some 14) = ((cs.drop 7).take 7).map V.int := by rw [List.map_take, List.map_drop]; exact cutV_mid (j := 7) (k := 14) (by rw [List.length_map]; omega) (by rw [List.length_map]; omega)
  have e5 := same_new (o := .lst (cutV (cs.map V.int) (some 7) (some 14))) hp5
  have hc5 := hc4.same e5
  obtain ⟨j0, j1, j2, ld, hld⟩ := str_ix ("klmnopqrst" : Str) (n := 10) (by decide +kernel) (by decide) (mod10 (c14 / 10)).1 (mod10 (c14 / 10)).2
  refine ⟨_, rfl, ca, _, _, _, rfl, rfl, SqL.of hc5.at_, h14, _, _, rfl, rfl, ⟨by decide, by decide⟩, _, _, rfl, rfl, (by decide : (0 : Int) < 10), _, _, _, rfl, rfl, j0, j1, j2, hld, ⟨_, rfl, r1, _, _, _, rfl, rfl, SqT.of (e5 _ _ g4), rfl, ⟨_, rfl, r1, _, _, _, rfl, rfl, SqT.of (e5 _ _ g4), rfl, small50 (by simp), fun p6 hp6 => ?_⟩⟩⟩
  have e6 := same_new (o := .lst [.str last]) hp6
  have hb2 : CellsAt (upd H4 p5 (.lst (cutV (cs.map V.int) (some 7) (some 14)))) p5 ((cs.drop 7).take 7) 7 := ⟨by rw [upd_same, ec2], by rw [List.length_take, List.length_drop]; omega⟩
  have hna6 := (hna.same e5).same e6
  refine ⟨p5, na, p6, (cs.drop 7).take 7, ns, [last], ⟨#[ld]⟩, rfl, hb2.same e6, Nat.le_refl _, ⟨hna6.at_, by have := hna6.len; omega⟩, ⟨upd_same, by simp⟩, fun r2 nb tb last2 ns2 prs2 H7 s7 g7 hnb hnn2 htb lpr2 hpr2 => ?_⟩
  have s47 := e5.trans (e6.trans s7)
  have s07 := s04.trans s47
  have g4' := s47 _ _ g4
  have hna7 := hna.same s47
  have hta7 := s47 _ _ hta
  have hc7 := hc.same s07
  have hna' := hna.len
  have hnb' := hnb.len
  refine ⟨_, rfl, r1, _, _, _, rfl, rfl, SqT.of g4', rfl, ⟨_, rfl, r2, _, _, _, rfl, rfl, SqT.of g7, rfl, na, nb, _, _, rfl, rfl, hna7.at_, hnb.at_, by rw [sizeLine_eq, List.length_map, List.length_map]; omega, fun pp hpp => ?_⟩⟩
  have e8 := same_new (o := .lst (ns.map V.str ++ ns2.map V.str)) hpp
  have hpool : (upd H7 pp (.lst (ns.map V.str ++ ns2.map V.str))) pp = some (.lst ((ns ++ ns2).map V.str)) := by rw [upd_same, List.map_append]
  have hpne : ns ++ ns2 ≠ [] := by simp [hnn]
  have hplen : (ns ++ ns2).length ≤ 1000 := by rw [List.length_append]; omega
  have hc8 := hc7.same e8
  refine ⟨_, rfl, r1, _, _, _, rfl, rfl, SqT.of (e8 _ _ g4'), rfl, _, rfl, r2, _, _, _, rfl, rfl, SqT.of (e8 _ _ g7), rfl, small50 (by simp), fun p8 hp8 => ?_⟩
  have e8b := same_new (o := .lst [.str last, .str last2]) hp8
  have hc8b := hc8.same e8b
  obtain ⟨z, hz, hat⟩ := at_two (.str last) (.str last2) (c14 / 100)
  obtain ⟨zs, rfl⟩ : ∃ zs : Str, z = .str zs := by rcases hz with h | h <;> exact ⟨_, h⟩
  refine ⟨_, rfl, ca, _, _, _, rfl, rfl, SqL.of hc8b.at_, h14, _, _, rfl, rfl, ⟨by decide, by decide⟩, _, _, rfl, rfl, (by decide : (0 : Int) < 2), p8, _, _, _, rfl, rfl, SqL.of upd_same, hat, small50 (by simp), fun pb hpb => ?_⟩
  have e8c := same_new (o := .tup [.str "name", .str zs]) hpb
  have hc8c := hc8b.same e8c
  obtain ⟨H8, hH8⟩ : ∃ H8, H8 = upd (upd (upd H7 pp (.lst (ns.map V.str ++ ns2.map V.str))) p8 (.lst [.str last, .str last2])) pb (.tup [.str "name", .str zs]) := ⟨_, rfl⟩
  have tpb : Tm F0 H8 4 (.ref pb) := ⟨pb, _, rfl, by rw [hH8]; exact upd_same, .name zs⟩
  have sP8 : Same (upd H7 pp (.lst (ns.map V.str ++ ns2.map V.str))) H8 := by rw [hH8]; exact e8b.trans e8c
  have s78 : Same H7 H8 := e8.trans sP8
  rw [← hH8] at hc8c
  rw [← hH8]
  refine ⟨_, rfl, ca, _, _, _, rfl, rfl, SqL.of hc8c.at_, h14, _, _, rfl, rfl, ⟨by decide, by decide⟩, _, _, rfl, rfl, (by decide : (0 : Int) < 3), rfl, _, rfl, ifB (fun _ => ?_) (fun _ => ?_)⟩
  · refine ⟨small50 (by simp), fun u3 hu3 => ⟨small50 (by simp), fun u4 hu4 => ?_⟩⟩
    have f3 := same_new (o := .tup []) hu3
    have f4 := same_new (o := .tup [.str "shape", .str "Nil", .ref u3]) hu4
    obtain ⟨HX, hHX⟩ : ∃ HX, HX = upd (upd H8 u3 (.tup [])) u4 (.tup [.str "shape", .str "Nil", .ref u3]) := ⟨_, rfl⟩
    have f34 : Same H8 HX := by rw [hHX]; exact f3.trans f4
    have tX : Tm F0 HX (0 + 4) (.ref u4) := by
      rw [hHX]
      exact ⟨u4, _, rfl, upd_same, .shape _ u3 [] (f4 _ _ upd_same) (by simp) (fun v hv => by cases hv) (by decide +kernel)⟩
    rw [← hHX]
    have s7P := sP8.trans f34
    have s7X := s78.trans f34
    have sX := s07.trans s7X
    have hcx := hc.same sX
    have g4x := s7X _ _ g4'
    have g7x := s7X _ _ g7
    refine ⟨_, rfl, _, rfl, ca, _, rfl, SqL.of hcx.at_, fun p9 hp9 => ?_⟩
    have ec3 : cutV (cs.map V.int) (some 15) none = (cs.drop 15).map V.int := by rw [List.map_drop]; exact cutV_drop (k := 15) (by rw [List.length_map]; omega)
    have e9 := same_new (o := .lst (cutV (cs.map V.int) (some 15) none)) hp9
    have g9 : (upd HX p9 (.lst (cutV (cs.map V.int) (some 15) none))) p9 = some (.lst ((cs.drop 15).map V.int)) := by rw [upd_same, ec3]
    refine ⟨p9, rfl, ⟨_, SqL.of g9⟩, for_list (K := K) (a := p9) (xs := (cs.drop 15).map V.int)
      (fun i σ G => ∃ b v5, σ = [some (.ref ca), some (.ref r1), some (.ref r2), some (.ref pp), some (.ref b), v5] ∧ Same HX G ∧ G p9 = some (.lst ((cs.drop 15).map V.int)) ∧ Tm F0 G (i + 4) (.ref b))
      ⟨_, _, rfl, e9, g9, tm_same tX e9⟩ (fun i σ G _ h => ?_) ?_ ?_⟩
    · obtain ⟨_, _, _, _, h, _⟩ := h
      exact SqL.of h
    · rintro i v σ G hi ⟨b, v5, rfl, sG, gp9, tb⟩
      rw [List.getElem?_map] at hi
      cases hx : (cs.drop 15)[i]? with
      | none => rw [hx] at hi; cases hi
      | some x =>
        rw [hx] at hi
        cases hi
        have gpp := (s7P.trans sG) _ _ hpool
        refine ⟨_, rfl, _, rfl, pp, ns ++ ns2, x, rfl, gpp, hpne, hplen, fun v H5 s5 t5 => ?_⟩
        refine ⟨_, rfl, small50 (by simp), fun u1 hu1 => ⟨small50 (by simp), fun u2 hu2 => ?_⟩⟩
        have f1 := same_new (o := .tup [v, .ref b]) hu1
        have f2 := same_new (o := .tup [.str "shape", .str "Cons", .ref u1]) hu2
        have fa := f1.trans f2
        refine ⟨u2, _, rfl, sG.trans (s5.trans fa), (s5.trans fa) _ _ gp9, u2, _, rfl, upd_same, .shape _ u1 [v, .ref b] (f2 _ _ upd_same) (by simp) (fun w hw => ?_) (by decide +kernel)⟩
        simp only [List.mem_cons, List.not_mem_nil, or_false] at hw
        rcases hw with rfl | rfl
        · exact (tm_same t5 fa).up (by omega)
        · exact tm_same tb (s5.trans fa)
    · rintro σ G ⟨b, v5, rfl, sG, gp9, tbd⟩
      have tb10 : Tm F0 G 10 (.ref b) := tbd.up (by rw [List.length_map, List.length_drop]; omega)
      have g4y := sG _ _ g4x
      have g7y := sG _ _ g7x
      refine ⟨_, rfl, r1, _, _, _, rfl, rfl, SqT.of g4y, rfl, _, rfl, r2, _, _, _, rfl, rfl, SqT.of g7y, rfl, _, rfl, small50 (by simp), fun u1 hu1 => ⟨small50 (by simp), fun u2 hu2 => ?_⟩⟩
      have f1 := same_new (o := .tup [.str "let", .ref tb, .ref b]) hu1
      have f2 := same_new (o := .tup [.str "let", .ref ta, .ref u1]) hu2
      have fa := f1.trans f2
      have s4z := (s47.trans s7X).trans (sG.trans fa)
      have s7z := s7X.trans (sG.trans fa)
      refine q _ _ ((sX.trans sG).trans fa) ⟨u2, _, rfl, upd_same, .let_ ta prs _ (s4z _ _ hta) (by omega) (fun v hv => ?_) ⟨u1, _, rfl, f2 _ _ upd_same, .let_ tb prs2 _ (s7z _ _ htb) (by omega) (fun v hv => ?_) (tm_same tb10 fa)⟩⟩
      · obtain ⟨b', x', e', h1, h2, h3⟩ := prr_same (hpr v hv) s4z
        exact ⟨b', x', e', h1, h2, h3.up (by decide)⟩
      · obtain ⟨b', x', e', h1, h2, h3⟩ := prr_same (hpr2 v hv) s7z
        exact ⟨b', x', e', h1, h2, h3.up (by decide)⟩
  · obtain ⟨HX, hHX⟩ : ∃ HX, HX = H8 := ⟨_, rfl⟩
    rw [← hHX] at tpb sP8 s78
    rw [← hHX]
    have tX : Tm F0 HX (0 + 4) (.ref pb) := tpb
    have s7P := sP8
    have s7X := s78
    have sX := s07.trans s7X
    have hcx := hc.same sX
    have g4x := s7X _ _ g4'
    have g7x := s7X _ _ g7
    refine ⟨_, rfl, _, rfl, ca, _, rfl, SqL.of hcx.at_, fun p9 hp9 => ?_⟩
    have ec3 : cutV (cs.map V.int) (some 15) none = (cs.drop 15).map V.int := by rw [List.map_drop]; exact cutV_drop (k := 15) (by rw [List.length_map]; omega)
    have e9 := same_new (o := .lst (cutV (cs.map V.int) (some 15) none)) hp9
    have g9 : (upd HX p9 (.lst (cutV (cs.map V.int) (some 15) none))) p9 = some (.lst ((cs.drop 15).map V.int)) := by rw [upd_same, ec3]
    refine ⟨p9, rfl, ⟨_, SqL.of g9⟩, for_list (K := K) (a := p9) (xs := (cs.drop 15).map V.int)
      (fun i σ G => ∃ b v5, σ = [some (.ref ca), some (.ref r1), some (.ref r2), some (.ref pp), some (.ref b), v5] ∧ Same HX G ∧ G p9 = some (.lst ((cs.drop 15).map V.int)) ∧ Tm F0 G (i + 4) (.ref b))
      ⟨_, _, rfl, e9, g9, tm_same tX e9⟩ (fun i σ G _ h => ?_) ?_ ?_⟩
    · obtain ⟨_, _, _, _, h, _⟩ := h
      exact SqL.of h
    · rintro i v σ G hi ⟨b, v5, rfl, sG, gp9, tb⟩
      rw [List.getElem?_map] at hi
      cases hx : (cs.drop 15)[i]? with
      | none => rw [hx] at hi; cases hi
      | some x =>
        rw [hx] at hi
        cases hi
        have gpp := (s7P.trans sG) _ _ hpool
        refine ⟨_, rfl, _, rfl, pp, ns ++ ns2, x, rfl, gpp, hpne, hplen, fun v H5 s5 t5 => ?_⟩
        refine ⟨_, rfl, small50 (by simp), fun u1 hu1 => ⟨small50 (by simp), fun u2 hu2 => ?_⟩⟩
        have f1 := same_new (o := .tup [v, .ref b]) hu1
        have f2 := same_new (o := .tup [.str "shape", .str "Cons", .ref u1]) hu2
        have fa := f1.trans f2
        refine ⟨u2, _, rfl, sG.trans (s5.trans fa), (s5.trans fa) _ _ gp9, u2, _, rfl, upd_same, .shape _ u1 [v, .ref b] (f2 _ _ upd_same) (by simp) (fun w hw => ?_) (by decide +kernel)⟩
        simp only [List.mem_cons, List.not_mem_nil, or_false] at hw
        rcases hw with rfl | rfl
        · exact (tm_same t5 fa).up (by omega)
        · exact tm_same tb (s5.trans fa)
    · rintro σ G ⟨b, v5, rfl, sG, gp9, tbd⟩
      have tb10 : Tm F0 G 10 (.ref b) := tbd.up (by rw [List.length_map, List.length_drop]; omega)
      have g4y := sG _ _ g4x
      have g7y := sG _ _ g7x
      refine ⟨_, rfl, r1, _, _, _, rfl, rfl, SqT.of g4y, rfl, _, rfl, r2, _, _, _, rfl, rfl, SqT.of g7y, rfl, _, rfl, small50 (by simp), fun u1 hu1 => ⟨small50 (by simp), fun u2 hu2 => ?_⟩⟩
      have f1 := same_new (o := .tup [.str "let", .ref tb, .ref b]) hu1
      have f2 := same_new (o := .tup [.str "let", .ref ta, .ref u1]) hu2
      have fa := f1.trans f2
      have s4z := (s47.trans s7X).trans (sG.trans fa)
      have s7z := s7X.trans (sG.trans fa)
      refine q _ _ ((sX.trans sG).trans fa) ⟨u2, _, rfl, upd_same, .let_ ta prs _ (s4z _ _ hta) (by omega) (fun v hv => ?_) ⟨u1, _, rfl, f2 _ _ upd_same, .let_ tb prs2 _ (s7z _ _ htb) (by omega) (fun v hv => ?_) (tm_same tb10 fa)⟩⟩
      · obtain ⟨b', x', e', h1, h2, h3⟩ := prr_same (hpr v hv) s4z
        exact ⟨b', x', e', h1, h2, h3.up (by decide)⟩
      · obtain ⟨b', x', e', h1, h2, h3⟩ := prr_same (hpr2 v hv) s7z
        exact ⟨b', x', e', h1, h2, h3.up (by decide)⟩
end
end W83

namespace W83
open PySem PySem.Spec PyProof.Rows L2
abbrev N_L_cells : List Str := ["_law_script", "_law_at", "_law_many", "_law_cells_here", "_law_k"]
abbrev P_L_cells : List Str := ["_law_script", "_law_at", "_law_many"]
theorem sc_L_cells : FnScope N_L_cells P_L_cells d_L_cells.scope := ⟨rfl, rfl, rfl, by decide +kernel, rfl, by decide +kernel, by decide +kernel⟩

abbrev N_L_deal : List Str := ["_law_cells_here", "_law_mixed", "_law_number", "_law_cell", "_law_left"]
abbrev P_L_deal : List Str := ["_law_cells_here", "_law_mixed"]
theorem sc_L_deal : FnScope N_L_deal P_L_deal d_L_deal.scope := ⟨rfl, rfl, rfl, by decide +kernel, rfl, by decide +kernel, by decide +kernel⟩

abbrev N_L_draw : List Str := ["_law_deal_here", "_law_many", "_law_number", "_law_one", "_law_other"]
abbrev P_L_draw : List Str := ["_law_deal_here", "_law_many"]
theorem sc_L_draw : FnScope N_L_draw P_L_draw d_L_draw.scope := ⟨rfl, rfl, rfl, by decide +kernel, rfl, by decide +kernel, by decide +kernel⟩

def dkv (b : Bool) (s n : Int) (La : Addr) (i : Int) : List (Key × V) := [(.inr "mixed", .bl b), (.inr "seed", .int s), (.inr "number", .int n), (.inr "left", .ref La), (.inr "inner", .int i)]
section
variable {b : Bool} {s n m i : Int} {La : Addr}
theorem dk_mixed : valV (dkv b s n La i) (.inr "mixed") = some (.bl b) := by rfl
theorem dk_seed : valV (dkv b s n La i) (.inr "seed") = some (.int s) := by rfl
theorem dk_number : valV (dkv b s n La i) (.inr "number") = some (.int n) := by rfl
theorem dk_left : valV (dkv b s n La i) (.inr "left") = some (.ref La) := by rfl
theorem dk_inner : valV (dkv b s n La i) (.inr "inner") = some (.int i) := by rfl
theorem dp_seed : putK (dkv b s n La i) (.inr "seed") (.int m) = dkv b m n La i := by rfl
theorem dp_number : putK (dkv b s n La i) (.inr "number") (.int m) = dkv b s m La i := by rfl
theorem dp_inner : putK (dkv b s n La i) (.inr "inner") (.int m) = dkv b s n La m := by rfl
end
def DMv (d La : Addr) (H H' : Hp) : Prop := ∀ b o, H b = some o → b ≠ d → b ≠ La → H' b = some o
theorem DMv.refl {d La : Addr} (H : Hp) : DMv d La H H := fun _ _ h _ _ => h
theorem DMv.trans {d La : Addr} {H H1 H2 : Hp} (a : DMv d La H H1) (b : DMv d La H1 H2) : DMv d La H H2 := fun c o h n m => b c o (a c o h n m) n m
theorem DMv.same {d La : Addr} {H H' : Hp} (s : Same H H') : DMv d La H H' := fun b o h _ _ => s b o h
/-- the deal: d, its list at La, what is left of inner -/
def DealP (H : Hp) (d La : Addr) (i : Int) : Prop := ∃ (b : Bool) (s n : Int) (l : List Int), H d = some (.dK (dkv b s n La i)) ∧ H La = some (.lst (l.map V.int)) ∧ 0 ≤ s ∧ s < 2147483647
theorem DealP.same {H H' : Hp} {d La : Addr} {i : Int} (h : DealP H d La i) (e : Same H H') : DealP H' d La i := by
  obtain ⟨b, s, n, l, h1, h2, h3⟩ := h
  exact ⟨b, s, n, l, e _ _ h1, e _ _ h2, h3⟩
theorem DealP.tupK {H H' : Hp} {d La : Addr} {i : Int} (h : DealP H d La i) (m : DMv d La H H') : TupK H H' := fun c xs hc => by
  obtain ⟨b, s, n, l, h1, h2, h3⟩ := h
  exact m c _ hc (fun z => by rw [z, h1] at hc; cases hc) (fun z => by rw [z, h2] at hc; cases hc)
def spCells (K : PySem.W.Frag) : Sp := fun vs H Q _ => ∃ (sa : Addr) (ss : List Int) (a m : Nat), vs = [.ref sa, .int ((a : Nat) : Int), .int ((m : Nat) : Int)] ∧ SqL K H sa (ss.map V.int) ∧ ss.length ≤ 1000 ∧ m ≤ 100 ∧ a ≤ 100 ∧
  ∀ (r : Addr) (cs : List Int) (H' : Hp), Same H H' → H' r = some (.lst (cs.map V.int)) → cs.length = m → Q (.ref r) H'
def spDeal (K : PySem.W.Frag) : Sp := fun vs H Q _ => ∃ (ca : Addr) (cs : List Int) (b : Bool), vs = [.ref ca, .bl b] ∧ H ca = some (.lst (cs.map V.int)) ∧ cs.length ≤ 1000 ∧
  ∀ (d La : Addr) (H' : Hp), Same H H' → H d = none → H La = none → DealP H' d La 40 → Q (.ref d) H'
def spDraw : Sp := fun vs H Q _ => ∃ (d La : Addr) (i many : Int), vs = [.ref d, .int many] ∧ DealP H d La i ∧ 0 < many ∧ many ≤ big ∧ ∀ (r : Int) (H' : Hp), 0 ≤ r → r < many → DealP H' d La i → DMv d La H H' → Q (.int r) H'
section
variable {P : Program} {w : World} {K : PySem.W.Frag} {mg : Str → Option Value} {base : Heap}
theorem sameL {H H' : Hp} {a : Addr} {xs : List V} (e : Same H H') (h : SqL K H a xs) : SqL K H' a xs := by
  rcases h with (h | ⟨o, h⟩) | h
  · exact .inl (.inl (e _ _ h))
  · exact .inl (.inr ⟨o, e _ _ h⟩)
  · exact .inr h
theorem cut_ints (ss : List Int) (lo hi : Option Int) : ∃ cs : List Int, cutV (ss.map V.int) lo hi = cs.map V.int := by
  unfold cutV
  rw [← List.map_drop, ← List.map_take]
  exact ⟨_, rfl⟩
theorem cut_le (xs : List V) (a m : Nat) : (cutV xs (some ((a : Nat) : Int)) (some (((a : Nat) : Int) + ((m : Nat) : Int)))).length ≤ m := by
  have e : ((a : Nat) : Int) + ((m : Nat) : Int) = ((a + m : Nat) : Int) := by omega
  unfold cutV
  rw [e, HT.sIx_nat, HT.sIx_nat, List.length_take]
  omega
theorem ok_cells (T : Top K mg) : Keeps P w K mg base CX0 2 d_L_cells P_L_cells (spCells K) := by
  obtain ⟨fd, F, bd⟩ := T.f_L_cells
  obtain ⟨_, G_L_mix⟩ := ok_mix (P := P) (w := w) (base := base) T
  refine keeps0 F bd sc_L_cells (fun vs H Q E h => ?_) (fun cdv AA outer sh H vs Q E hr h => ?_)
  · obtain ⟨sa, ss, a, m, rfl, _⟩ := h
    rfl
  obtain ⟨sa, ss, a, m, rfl, hs, hl, hm, ham, q⟩ := h
  refine ⟨_, (pss_cons (ps_set (i := 3) sc_L_cells.nd rfl (Or.inl rfl) (pe_slice sl_list (pv 0) (po_some (pv 1)) (po_some (pe_op op_add (pv 1) (pv 2)))))
    (pss_one (ps_ret (pe_op op_cat (pv 3) (pe_lc (own := [("_law_k", 4)]) (g := gName 4) rfl sc_L_cells.nd (pi_range1 rfl T.z_range (pa_cons (pe_op op_sub (pv 2) (pe_callB call_len_seq (by rfl) T.z_len PySem.boot_len (pa_cons (pv 3) pa_nil))) pa_nil)) (blkOk_by (own := [("_law_k", 4)]) (N := N_L_cells) (sc := d_L_cells.scope) (by decide +kernel)) (fun _ _ _ _ _ => (pg_name (i := 4) sc_L_cells.nd rfl (Or.inl rfl))) (fun _ _ _ _ _ => pts_nil) (fun _ _ _ _ _ => (pe_call G_L_mix.ok (hr.mono (by decide)) rfl T.g_law_mix G_L_mix.kp G_L_mix.bd .nil pass0 (pa_cons (pe_op op_add (pv 1) (pe_callB (show CallR _ (.builtin "len") (fun xs H Q => ∃ p ys, xs = [V.ref p] ∧ (SqL K H p ys ∨ SqT K H p ys) ∧ Q (.int ys.length) H) from call_len_seq) (by rfl) T.z_len PySem.boot_len (pa_cons (pv 0) pa_nil))) (pa_cons (pv 4) pa_nil))))))))), ?_⟩
  refine ⟨_, rfl, _, rfl, _, rfl, ⟨_, rfl, _, rfl, _, _, rfl, rfl, _, rfl, sa, _, rfl, hs, fun p1 hp1 => ?_⟩⟩
  obtain ⟨cs, ecs⟩ := cut_ints ss (some ((a : Nat) : Int)) (some (((a : Nat) : Int) + ((m : Nat) : Int)))
  have lcs := cut_le (ss.map V.int) a m
  have e1 := same_new (o := .lst (cutV (ss.map V.int) (some ((a : Nat) : Int)) (some (((a : Nat) : Int) + ((m : Nat) : Int))))) hp1
  have g1 : (upd H p1 (.lst (cutV (ss.map V.int) (some ((a : Nat) : Int)) (some (((a : Nat) : Int) + ((m : Nat) : Int)))))) p1 = some (.lst (cs.map V.int)) := by rw [upd_same, ecs]
  rw [ecs, List.length_map] at lcs
  refine ⟨_, rfl, _, rfl, _, rfl, p1, _, rfl, .inl (SqL.of g1), _, _, rfl, rfl, _, rfl, by rw [List.length_map]; omega, by rw [List.length_map]; omega, fun p2 hp2 => ?_⟩
  have en : (((m : Nat) : Int) - (((cs.map V.int).length : Nat) : Int)).toNat = m - cs.length := by rw [List.length_map]; omega
  refine lc_range (n := (((m : Nat) : Int) - (((cs.map V.int).length : Nat) : Int)).toNat) (fun i G => Same (upd H p1 (.lst (cutV (ss.map V.int) (some ((a : Nat) : Int)) (some (((a : Nat) : Int) + ((m : Nat) : Int)))))) G ∧ ∃ ds : List Int, ds.length = i ∧ G p2 = some (.lst (ds.map V.int))) ⟨same_new hp2, [], rfl, upd_same⟩ ?_ ?_
  · rintro i G hi ⟨sG, ds, ld, g2⟩
    rw [en] at hi
    refine ⟨rfl, ?_⟩
    refine ⟨_, rfl, _, rfl, sa, _, rfl, .inl (sameL (e1.trans sG) hs), _, _, rfl, rfl, ⟨_, rfl, _, _, rfl, by omega, by omega, fun r _ _ => ?_⟩⟩
    refine ⟨_, g2, small9 (by rw [List.length_map]; omega), same_grow sG hp2, ds ++ [r], by rw [List.length_append, ld]; rfl, ?_⟩
    rw [upd_same, List.map_append]
    rfl
  · rintro G ⟨sG, ds, ld, g2⟩
    rw [en] at ld
    refine ⟨p1, p2, _, _, rfl, rfl, sG _ _ g1, g2, by rw [sizeLine_eq, List.length_map, List.length_map]; omega, fun r hr' => ?_⟩
    exact q r (cs ++ ds) _ (e1.trans (sG.trans (same_new hr'))) (by rw [upd_same, List.map_append]) (by rw [List.length_append]; omega)
theorem ok_deal (T : Top K mg) : Keeps P w K mg base CX0 1 d_L_deal P_L_deal (spDeal K) := by
  obtain ⟨fd, F, bd⟩ := T.f_L_deal
  refine keeps0 F bd sc_L_deal (fun vs H Q E h => ?_) (fun cdv AA outer sh H vs Q E hr h => ?_)
  · obtain ⟨ca, cs, b, rfl, _⟩ := h
    rfl
  obtain ⟨ca, cs, b, rfl, hc, hl, q⟩ := h
  refine ⟨_, (pss_cons (ps_set (i := 2) sc_L_deal.nd rfl (Or.inl rfl) pe_int)
    (pss_cons (ps_for PassesOwn.never rfl (pi_list (pv 0)) (pg_name (i := 3) sc_L_deal.nd rfl (Or.inl rfl))
    (pss_one (ps_set (i := 2) sc_L_deal.nd rfl (Or.inl rfl) (pe_op op_mod (pe_op op_add (pe_op op_mul (pv 2) pe_int) (pv 3)) pe_int))))
    (pss_cons (ps_setLc (i := 4) (own := [("_law_cell", 3)]) (g := gName 3) rfl sc_L_deal.nd rfl rfl (sw_true rfl rfl rfl (by decide +kernel)) (pi_reversed (by rfl) T.z_reversed (pa_cons (pv 0) pa_nil)) (blkOk_by (own := [("_law_cell", 3)]) (N := N_L_deal) (sc := d_L_deal.scope) (by decide +kernel)) (fun _ _ _ _ _ => (pg_name (i := 3) sc_L_deal.nd rfl (Or.inl rfl))) (fun _ _ _ _ _ => pts_nil) (fun _ _ _ _ _ => (pe_callB (call_max2 rfl) (by rfl) T.z_max (by decide +kernel) (pa_cons (pv 3) (pa_cons (pe_op op_sub pe_int (pv 3)) pa_nil)))))
    (pss_one (ps_ret (pe_disp (pps_cons pe_str (pv 1) (pps_cons pe_str (pv 2) (pps_cons pe_str pe_int (pps_cons pe_str (pv 4) (pps_cons pe_str pe_int pps_nil))))) (by rfl) (by rfl) (fun z => by cases z) (by decide))))))), ?_⟩
  refine ⟨_, rfl, ca, rfl, ⟨_, SqL.of hc⟩, for_list (K := K) (a := ca) (xs := cs.map V.int) (fun i σ G => G = H ∧ ∃ n v3 v4, 0 ≤ n ∧ n < 2147483647 ∧ σ = [some (.ref ca), some (.bl b), some (.int n), v3, v4]) ⟨rfl, _, _, _, by decide, by decide, rfl⟩ (fun i σ G _ h => by rw [h.1]; exact SqL.of hc) ?_ ?_⟩
  · rintro i v σ G hi ⟨rfl, n, v3, v4, n0, n1, rfl⟩
    rw [List.getElem?_map] at hi
    cases hx : cs[i]? with
    | none => rw [hx] at hi; cases hi
    | some x =>
      rw [hx] at hi
      cases hi
      refine ⟨_, rfl, _, _, rfl, rfl, .inr ⟨by decide, by decide⟩, ⟨_, rfl, _, _, rfl, rfl, _, _, rfl, rfl, (by decide : (0 : Int) < 2147483647), ?_⟩⟩
      exact ⟨rfl, _, _, _, Int.emod_nonneg _ (by decide), Int.emod_lt_of_pos _ (by decide), rfl⟩
  · rintro σ G ⟨rfl, n, v3, v4, n0, n1, rfl⟩
    refine ⟨_, rfl, ca, _, rfl, SqL.of hc, fun L hL => ?_⟩
    refine lc_it walk_rev (fun i G2 => Same G G2 ∧ ∃ ds : List Int, ds.length = i ∧ G2 L = some (.lst (ds.map V.int))) ⟨same_new hL, [], rfl, upd_same⟩ (fun i G2 _ h => SqL.of (h.1 _ _ hc)) ?_ ?_
    · rintro i v G2 G3 hi ⟨sG, ds, ld, g2⟩ ⟨rfl, hv⟩
      rw [List.getElem?_map] at hv
      cases hx : cs[(cs.map V.int).length - 1 - i]? with
      | none => rw [hx] at hv; cases hv
      | some x =>
        rw [hx] at hv
        cases hv
        rw [List.length_map] at hi
        refine ⟨rfl, ?_⟩
        refine ⟨_, rfl, _, rfl, _, _, rfl, rfl, _, _, rfl, _, g2, small9 (by rw [List.length_map]; omega), same_grow sG hL, ds ++ [if 0 - x > x then 0 - x else x], by rw [List.length_append, ld]; rfl, ?_⟩
        rw [upd_same, List.map_append]
        rfl
    · rintro G2 ⟨sG, ds, ld, g2⟩
      intro d hd
      have e1 := same_new (o := .dK []) hd
      refine ⟨_, rfl, _, rfl, _, rfl, upd_same, dkv b n 0 L 40, rfl, by show 5 ≤ 15; decide, ?_⟩
      have hdL : d ≠ L := fun z => by rw [z, g2] at hd; cases hd
      have e2 : Same G2 (upd (upd G2 d (.dK [])) d (.dK (mergeK [] (dkv b n 0 L 40)))) := fun c o e => by
        rw [upd_ne (ne_of_none e hd)]
        exact e1 _ _ e
      refine q d L _ (sG.trans e2) ?_ hL ⟨b, n, 0, ds, upd_same, ?_, n0, n1⟩
      · cases hx : G d with
        | none => rfl
        | some o =>
          have := sG _ _ hx
          rw [hd] at this
          cases this
      · rw [upd_ne hdL.symm, upd_ne hdL.symm]
        exact g2
theorem ok_draw (T : Top K mg) : Keeps P w K mg base CX0 1 d_L_draw P_L_draw spDraw := by
  obtain ⟨fd, F, bd⟩ := T.f_L_draw
  refine keeps0 F bd sc_L_draw (fun vs H Q E h => ?_) (fun cdv AA outer sh H vs Q E hr h => ?_)
  · obtain ⟨d, La, i, many, rfl, _⟩ := h
    rfl
  obtain ⟨d, La, i, many, rfl, ⟨b, s0, n0, l0, hd0, hL0, p0, p1⟩, hm0, hm1, q⟩ := h
  refine ⟨_, (pss_cons (ps_while PassesOwn.never (PW.pt (pw_and (pt_cmpR op_eq (pe_dget (hu_of hr) (pv 0) pe_str (fun _ _ => rfl)) pe_int (nomark _)) (pw_and (pt_cmpR op_gt (pe_callB call_len_seq (by rfl) T.z_len PySem.boot_len (pa_cons (pe_dget (hu_of hr) (pv 0) pe_str (fun _ _ => rfl)) pa_nil)) pe_int (nomark _)) (pw_and1 (pt_not (pt_val (pe_dget (hu_of hr) (pv 0) pe_str (fun _ _ => rfl))))))))
    (pss_one (ps_dput (hu_of hr) (pv 0) pe_str (pe_bm0 PySem.F.plainAttrs_list PySem.F.slot_list_pop PySem.F.type_list_pop mt_pop (pe_dget (hu_of hr) (pv 0) pe_str (fun _ _ => rfl))) rfl)))
    (pss_cons (ps_set (i := 2) sc_L_draw.nd rfl (Or.inl rfl) (pe_dget (hu_of hr) (pv 0) pe_str (fun _ _ => rfl)))
    (pss_cons (ps_if (pt_cmpR op_gt (pv 2) pe_int (nomark _))
    (pss_cons (ps_dput (hu_of hr) (pv 0) pe_str (pe_op op_fdivW (pv 2) (pv 1)) rfl)
    (pss_one (ps_ret (pe_op op_mod (pv 2) (pv 1)))))
    pss_nil)
    (pss_cons (ps_set (i := 3) sc_L_draw.nd rfl (Or.inl rfl) (pe_op op_mod (pe_op op_add (pe_op op_mul (pe_dget (hu_of hr) (pv 0) pe_str (fun _ _ => rfl)) pe_int) pe_int) pe_int))
    (pss_cons (ps_dput (hu_of hr) (pv 0) pe_str (pe_op op_mod (pe_op op_add (pe_op op_mul (pv 3) pe_int) pe_int) pe_int) rfl)
    (pss_cons (ps_set (i := 4) sc_L_draw.nd rfl (Or.inl rfl) (pe_op op_mod (pe_op op_mul (pe_dget (hu_of hr) (pv 0) pe_str (fun _ _ => rfl)) (pe_dget (hu_of hr) (pv 0) pe_str (fun _ _ => rfl))) pe_int))
    (pss_one (ps_ret (pe_op op_mod (pe_op op_add (pe_op op_mul (pe_op op_mod (pe_op op_mul (pv 3) (pv 3)) pe_int) pe_int) (pv 4)) (pv 1)))))))))), ?_⟩
  have ndL : d ≠ La := fun z => by rw [z, hL0] at hd0; cases hd0
  refine ⟨fun m σ G => ∃ s n l, σ = [some (.ref d), some (.int many), none, none, none] ∧ G d = some (.dK (dkv b s n La i)) ∧ G La = some (.lst (l.map V.int)) ∧ 0 ≤ s ∧ s < 2147483647 ∧ DMv d La H G ∧ m = l.length, ⟨_, s0, n0, l0, rfl, hd0, hL0, p0, p1, DMv.refl H, rfl⟩, ?_⟩
  rintro m σ G ⟨s, n, l, rfl, gd, gL, s1, s2, mv, rfl⟩
  have dg : ∀ {G : Hp} {s n : Int} {x : Str} {v : V}, G d = some (.dK (dkv b s n La i)) → valV (dkv b s n La i) (.inr x) = some v → DGet G d (.str x) (some v) := fun h e => e ▸ DGet.k (k := .inr _) h
  have mvd : ∀ {o : HO}, DMv d La G (upd G d o) := fun c u e n1 n2 => by rw [upd_ne n1]; exact e
  have lk : (dkv b s n La i).length < sizeLine := small9 (by show 5 ≤ 100000; decide)
  have hlog : many.natAbs.log2 < 9000 := by
    have := PyProof.Rows.shown (a := many) (N := 2 * big) (by have : big = 1000000000000000000 := rfl; omega) (by have : big = 1000000000000000000 := rfl; omega) (by decide)
    omega
  refine ⟨_, rfl, d, .int n, rfl, dg gd dk_number, rfl, _, rfl, ifB (fun hz => ?_) (fun hz => ifF rfl ?_)⟩
  · refine ⟨_, rfl, d, .ref La, rfl, dg gd dk_left, La, _, rfl, .inl (SqL.of gL), _, _, rfl, rfl, _, rfl, ifB (fun hl => ?_) (fun hl => ifF rfl ?_)⟩
    · refine ⟨_, rfl, d, .bl b, rfl, dg gd dk_mixed, _, rfl, ?_⟩
      rcases Bool.eq_false_or_eq_true b with hb | hb
      · refine ifF (by rw [hb]; rfl) ?_
        refine ⟨_, rfl, d, .int n, rfl, dg gd dk_number, ?_⟩
        refine ⟨_, rfl, _, _, rfl, rfl, _, rfl, ifB (fun hp => ?_) (fun _ => ?_)⟩
        · refine ⟨_, rfl, _, rfl, _, _, rfl, rfl, ⟨hm0, hlog⟩, _, rfl, d, _, rfl, DPut.k (k := .inr "number") gd lk, ?_⟩
          rw [dp_number]
          refine ⟨_, rfl, _, rfl, _, _, rfl, rfl, hm0, ?_⟩
          exact q _ _ (Int.emod_nonneg _ (by omega)) (Int.emod_lt_of_pos _ hm0) ⟨b, s, _, l, upd_same, by rw [upd_ne ndL.symm]; exact gL, s1, s2⟩ (mv.trans mvd)
        · refine ⟨_, rfl, d, .int s, rfl, dg gd dk_seed, _, _, rfl, rfl, .inr ⟨by decide, by decide⟩, _, _, rfl, rfl, _, _, rfl, rfl, (by decide : (0 : Int) < 2147483647), ?_⟩
          have o0 : 0 ≤ (s * 48271 + 7919) % 2147483647 := Int.emod_nonneg _ (by decide)
          have o1 : (s * 48271 + 7919) % 2147483647 < 2147483647 := Int.emod_lt_of_pos _ (by decide)
          refine ⟨_, rfl, _, _, rfl, rfl, .inr ⟨by decide, by decide⟩, _, _, rfl, rfl, _, _, rfl, rfl, (by decide : (0 : Int) < 2147483399), _, rfl, d, _, rfl, DPut.k (k := .inr "seed") gd lk, ?_⟩
          rw [dp_seed]
          obtain ⟨one, hone⟩ : ∃ one, one = (s * 48271 + 7919) % 2147483647 := ⟨_, rfl⟩
          have u0 : 0 ≤ (((s * 48271 + 7919) % 2147483647) * 40692 + 104729) % 2147483399 := Int.emod_nonneg _ (by decide)
          have u1 : (((s * 48271 + 7919) % 2147483647) * 40692 + 104729) % 2147483399 < 2147483399 := Int.emod_lt_of_pos _ (by decide)
          refine ⟨_, rfl, d, _, rfl, dg upd_same dk_seed, ⟨_, rfl, d, _, rfl, dg upd_same dk_seed, _, _, rfl, rfl, .inl ⟨?_, ?_⟩, _, _, rfl, rfl, (by decide : (0 : Int) < 2147483563), ?_⟩⟩
          · show -(2 ^ 64) < (((s * 48271 + 7919) % 2147483647) * 40692 + 104729) % 2147483399
            omega
          · show (((s * 48271 + 7919) % 2147483647) * 40692 + 104729) % 2147483399 < 2 ^ 64
            omega
          refine ⟨_, rfl, _, rfl, _, _, rfl, rfl, .inl ⟨?_, ?_⟩, _, _, rfl, rfl, (by decide : (0 : Int) < 2147483629), _, _, rfl, rfl, .inr ⟨by decide, by decide⟩, _, rfl, _, _, rfl, rfl, _, rfl, _, _, rfl, rfl, hm0, ?_⟩
          · show -(2 ^ 64) < (s * 48271 + 7919) % 2147483647
            omega
          · show (s * 48271 + 7919) % 2147483647 < 2 ^ 64
            omega
          exact q _ _ (Int.emod_nonneg _ (by omega)) (Int.emod_lt_of_pos _ hm0) ⟨b, _, n, l, upd_same, by rw [upd_ne ndL.symm]; exact gL, u0, by show (((s * 48271 + 7919) % 2147483647) * 40692 + 104729) % 2147483399 < _; omega⟩ (mv.trans mvd)
      · refine ifT (by rw [hb]; rfl) ?_
        have hlp : 0 < l.length := by
          have := of_decide_eq_true hl
          rw [List.length_map] at this
          omega
        obtain ⟨l', x, el⟩ := snocL (n := l.length - 1) (l := l) (by omega)
        have gL' := gL
        rw [el, List.map_append] at gL'
        refine ⟨fun σ G => ∃ m', m' < l.length ∧ ∃ (s n : Int) (l : List Int), σ = [some (.ref d), some (.int many), none, none, none] ∧ G d = some (.dK (dkv b s n La i)) ∧ G La = some (.lst (l.map V.int)) ∧ 0 ≤ s ∧ s < 2147483647 ∧ DMv d La H G ∧ m' = l.length, fun σ' H' h => h, ?_⟩
        refine ⟨_, rfl, d, .ref La, rfl, dg gd dk_left, .inl ⟨rfl, _, SqL.of gL⟩, La, _, .int x, rfl, rfl, gL', lastA, ?_⟩
        rw [show (l'.map V.int ++ [x].map V.int).dropLast = l'.map V.int from List.dropLast_concat]
        have gd2 : upd G La (.lst (l'.map V.int)) d = some (.dK (dkv b s n La i)) := by rw [upd_ne ndL]; exact gd
        refine ⟨_, rfl, d, _, rfl, DPut.k (k := .inr "number") gd2 lk, ?_⟩
        rw [dp_number]
        refine ⟨l'.length, by rw [el, List.length_append]; simp, s, x, l', rfl, upd_same, by rw [upd_ne ndL.symm, upd_same], s1, s2, fun c u e n1 n2 => ?_, rfl⟩
        rw [upd_ne n1, upd_ne n2]
        exact mv c u e n1 n2
    ·
      refine ⟨_, rfl, d, .int n, rfl, dg gd dk_number, ?_⟩
      refine ⟨_, rfl, _, _, rfl, rfl, _, rfl, ifB (fun hp => ?_) (fun _ => ?_)⟩
      · refine ⟨_, rfl, _, rfl, _, _, rfl, rfl, ⟨hm0, hlog⟩, _, rfl, d, _, rfl, DPut.k (k := .inr "number") gd lk, ?_⟩
        rw [dp_number]
        refine ⟨_, rfl, _, rfl, _, _, rfl, rfl, hm0, ?_⟩
        exact q _ _ (Int.emod_nonneg _ (by omega)) (Int.emod_lt_of_pos _ hm0) ⟨b, s, _, l, upd_same, by rw [upd_ne ndL.symm]; exact gL, s1, s2⟩ (mv.trans mvd)
      · refine ⟨_, rfl, d, .int s, rfl, dg gd dk_seed, _, _, rfl, rfl, .inr ⟨by decide, by decide⟩, _, _, rfl, rfl, _, _, rfl, rfl, (by decide : (0 : Int) < 2147483647), ?_⟩
        have o0 : 0 ≤ (s * 48271 + 7919) % 2147483647 := Int.emod_nonneg _ (by decide)
        have o1 : (s * 48271 + 7919) % 2147483647 < 2147483647 := Int.emod_lt_of_pos _ (by decide)
        refine ⟨_, rfl, _, _, rfl, rfl, .inr ⟨by decide, by decide⟩, _, _, rfl, rfl, _, _, rfl, rfl, (by decide : (0 : Int) < 2147483399), _, rfl, d, _, rfl, DPut.k (k := .inr "seed") gd lk, ?_⟩
        rw [dp_seed]
        obtain ⟨one, hone⟩ : ∃ one, one = (s * 48271 + 7919) % 2147483647 := ⟨_, rfl⟩
        have u0 : 0 ≤ (((s * 48271 + 7919) % 2147483647) * 40692 + 104729) % 2147483399 := Int.emod_nonneg _ (by decide)
        have u1 : (((s * 48271 + 7919) % 2147483647) * 40692 + 104729) % 2147483399 < 2147483399 := Int.emod_lt_of_pos _ (by decide)
        refine ⟨_, rfl, d, _, rfl, dg upd_same dk_seed, ⟨_, rfl, d, _, rfl, dg upd_same dk_seed, _, _, rfl, rfl, .inl ⟨?_, ?_⟩, _, _, rfl, rfl, (by decide : (0 : Int) < 2147483563), ?_⟩⟩
        · show -(2 ^ 64) < (((s * 48271 + 7919) % 2147483647) * 40692 + 104729) % 2147483399
          omega
        · show (((s * 48271 + 7919) % 2147483647) * 40692 + 104729) % 2147483399 < 2 ^ 64
          omega
        refine ⟨_, rfl, _, rfl, _, _, rfl, rfl, .inl ⟨?_, ?_⟩, _, _, rfl, rfl, (by decide : (0 : Int) < 2147483629), _, _, rfl, rfl, .inr ⟨by decide, by decide⟩, _, rfl, _, _, rfl, rfl, _, rfl, _, _, rfl, rfl, hm0, ?_⟩
        · show -(2 ^ 64) < (s * 48271 + 7919) % 2147483647
          omega
        · show (s * 48271 + 7919) % 2147483647 < 2 ^ 64
          omega
        exact q _ _ (Int.emod_nonneg _ (by omega)) (Int.emod_lt_of_pos _ hm0) ⟨b, _, n, l, upd_same, by rw [upd_ne ndL.symm]; exact gL, u0, by show (((s * 48271 + 7919) % 2147483647) * 40692 + 104729) % 2147483399 < _; omega⟩ (mv.trans mvd)
  ·
    refine ⟨_, rfl, d, .int n, rfl, dg gd dk_number, ?_⟩
    refine ⟨_, rfl, _, _, rfl, rfl, _, rfl, ifB (fun hp => ?_) (fun _ => ?_)⟩
    · refine ⟨_, rfl, _, rfl, _, _, rfl, rfl, ⟨hm0, hlog⟩, _, rfl, d, _, rfl, DPut.k (k := .inr "number") gd lk, ?_⟩
      rw [dp_number]
      refine ⟨_, rfl, _, rfl, _, _, rfl, rfl, hm0, ?_⟩
      exact q _ _ (Int.emod_nonneg _ (by omega)) (Int.emod_lt_of_pos _ hm0) ⟨b, s, _, l, upd_same, by rw [upd_ne ndL.symm]; exact gL, s1, s2⟩ (mv.trans mvd)
    · refine ⟨_, rfl, d, .int s, rfl, dg gd dk_seed, _, _, rfl, rfl, .inr ⟨by decide, by decide⟩, _, _, rfl, rfl, _, _, rfl, rfl, (by decide : (0 : Int) < 2147483647), ?_⟩
      have o0 : 0 ≤ (s * 48271 + 7919) % 2147483647 := Int.emod_nonneg _ (by decide)
      have o1 : (s * 48271 + 7919) % 2147483647 < 2147483647 := Int.emod_lt_of_pos _ (by decide)
      refine ⟨_, rfl, _, _, rfl, rfl, .inr ⟨by decide, by decide⟩, _, _, rfl, rfl, _, _, rfl, rfl, (by decide : (0 : Int) < 2147483399), _, rfl, d, _, rfl, DPut.k (k := .inr "seed") gd lk, ?_⟩
      rw [dp_seed]
      obtain ⟨one, hone⟩ : ∃ one, one = (s * 48271 + 7919) % 2147483647 := ⟨_, rfl⟩
      have u0 : 0 ≤ (((s * 48271 + 7919) % 2147483647) * 40692 + 104729) % 2147483399 := Int.emod_nonneg _ (by decide)
      have u1 : (((s * 48271 + 7919) % 2147483647) * 40692 + 104729) % 2147483399 < 2147483399 := Int.emod_lt_of_pos _ (by decide)
      refine ⟨_, rfl, d, _, rfl, dg upd_same dk_seed, ⟨_, rfl, d, _, rfl, dg upd_same dk_seed, _, _, rfl, rfl, .inl ⟨?_, ?_⟩, _, _, rfl, rfl, (by decide : (0 : Int) < 2147483563), ?_⟩⟩
      · show -(2 ^ 64) < (((s * 48271 + 7919) % 2147483647) * 40692 + 104729) % 2147483399
        omega
      · show (((s * 48271 + 7919) % 2147483647) * 40692 + 104729) % 2147483399 < 2 ^ 64
        omega
      refine ⟨_, rfl, _, rfl, _, _, rfl, rfl, .inl ⟨?_, ?_⟩, _, _, rfl, rfl, (by decide : (0 : Int) < 2147483629), _, _, rfl, rfl, .inr ⟨by decide, by decide⟩, _, rfl, _, _, rfl, rfl, _, rfl, _, _, rfl, rfl, hm0, ?_⟩
      · show -(2 ^ 64) < (s * 48271 + 7919) % 2147483647
        omega
      · show (s * 48271 + 7919) % 2147483647 < 2 ^ 64
        omega
      exact q _ _ (Int.emod_nonneg _ (by omega)) (Int.emod_lt_of_pos _ hm0) ⟨b, _, n, l, upd_same, by rw [upd_ne ndL.symm]; exact gL, u0, by show (((s * 48271 + 7919) % 2147483647) * 40692 + 104729) % 2147483399 < _; omega⟩ (mv.trans mvd)
end
end W83

namespace W83
open PySem PySem.Spec PyProof.Rows L2
abbrev N_L_name : List Str := ["_law_deal_here", "_law_letters", "_law_name_here", "_law_k"]
abbrev P_L_name : List Str := ["_law_deal_here"]
theorem sc_L_name : FnScope N_L_name P_L_name d_L_name.scope := ⟨rfl, rfl, rfl, by decide +kernel, rfl, by decide +kernel, by decide +kernel⟩

abbrev N_L_kind : List Str := ["_law_deal_here", "_law_fuel", "_law_way", "_law_one"]
abbrev P_L_kind : List Str := ["_law_deal_here", "_law_fuel"]
theorem sc_L_kind : FnScope N_L_kind P_L_kind d_L_kind.scope := ⟨rfl, rfl, rfl, by decide +kernel, rfl, by decide +kernel, by decide +kernel⟩

inductive Kn where
  | num | truth | list (a : Kn) | pair (a b : Kn) | to (a b : Kn)
def Kn.dep : Kn → Nat
  | .num => 1 | .truth => 1 | .list a => a.dep + 1 | .pair a b => max a.dep b.dep + 1 | .to a b => max a.dep b.dep + 1
def Kn.At (H : Hp) : Kn → V → Prop
  | .num, v => ∃ a, v = .ref a ∧ H a = some (.tup [.str "num"])
  | .truth, v => ∃ a, v = .ref a ∧ H a = some (.tup [.str "truth"])
  | .list k, v => ∃ a x, v = .ref a ∧ H a = some (.tup [.str "list", x]) ∧ k.At H x
  | .pair j k, v => ∃ a x y, v = .ref a ∧ H a = some (.tup [.str "pair", x, y]) ∧ j.At H x ∧ k.At H y
  | .to j k, v => ∃ a x y, v = .ref a ∧ H a = some (.tup [.str "to", x, y]) ∧ j.At H x ∧ k.At H y
theorem Kn.At.keep {H H' : Hp} (t : TupK H H') : ∀ {k : Kn} {v : V}, k.At H v → k.At H' v
  | .num, _, ⟨a, e, h⟩ => ⟨a, e, t _ _ h⟩
  | .truth, _, ⟨a, e, h⟩ => ⟨a, e, t _ _ h⟩
  | .list _, _, ⟨a, x, e, h, h1⟩ => ⟨a, x, e, t _ _ h, Kn.At.keep t h1⟩
  | .pair _ _, _, ⟨a, x, y, e, h, h1, h2⟩ => ⟨a, x, y, e, t _ _ h, Kn.At.keep t h1, Kn.At.keep t h2⟩
  | .to _ _, _, ⟨a, x, y, e, h, h1, h2⟩ => ⟨a, x, y, e, t _ _ h, Kn.At.keep t h1, Kn.At.keep t h2⟩
def spName : Sp := fun vs H Q _ => ∃ (d La : Addr) (i : Int), vs = [.ref d] ∧ DealP H d La i ∧ ∀ (x : Str) (H' : Hp), x.length ≤ 20 → DealP H' d La i → DMv d La H H' → Q (.str x) H'
def spKind (n : Nat) : Sp := fun vs H Q _ => ∃ (d La : Addr) (i : Int) (f : Nat), f < n ∧ vs = [.ref d, .int ((f : Nat) : Int)] ∧ DealP H d La i ∧ ∀ (k : Kn) (v : V) (H' : Hp), k.dep ≤ f + 1 → k.At H' v → DealP H' d La i → DMv d La H H' → Q v H'
section
variable {P : Program} {w : World} {K : PySem.W.Frag} {mg : Str → Option Value} {base : Heap}
theorem ok_name (T : Top K mg) : Keeps P w K mg base CX0 2 d_L_name P_L_name spName := by
  obtain ⟨fd, F, bd⟩ := T.f_L_name
  obtain ⟨_, G_L_draw⟩ := ok_draw (P := P) (w := w) (base := base) T
  refine keeps0 F bd sc_L_name (fun vs H Q E h => ?_) (fun cdv AA outer sh H vs Q E hr h => ?_)
  · obtain ⟨d, La, i, rfl, _⟩ := h
    rfl
  obtain ⟨d, La, i, rfl, dp, q⟩ := h
  refine ⟨_, (pss_cons (ps_set (i := 1) sc_L_name.nd rfl (Or.inl rfl) pe_str)
    (pss_cons (ps_if (pt_cmpR op_eq (pe_call G_L_draw.ok (hr.mono (by decide)) rfl T.g_law_draw G_L_draw.kp G_L_draw.bd .nil pass0 (pa_cons (pv 0) (pa_cons pe_int pa_nil))) pe_int (nomark _))
    (pss_one (ps_ret (pe_item_str (pv 1) (pe_call G_L_draw.ok (hr.mono (by decide)) rfl T.g_law_draw G_L_draw.kp G_L_draw.bd .nil pass0 (pa_cons (pv 0) (pa_cons pe_int pa_nil))) (fun _ _ => rfl))))
    pss_nil)
    (pss_cons (ps_set (i := 2) sc_L_name.nd rfl (Or.inl rfl) (pe_item_str (pv 1) (pe_call G_L_draw.ok (hr.mono (by decide)) rfl T.g_law_draw G_L_draw.kp G_L_draw.bd .nil pass0 (pa_cons (pv 0) (pa_cons pe_int pa_nil))) (fun _ _ => rfl)))
    (pss_cons (ps_for PassesOwn.never rfl (pi_range1 rfl T.z_range (pa_cons (pe_call G_L_draw.ok (hr.mono (by decide)) rfl T.g_law_draw G_L_draw.kp G_L_draw.bd .nil pass0 (pa_cons (pv 0) (pa_cons pe_int pa_nil))) pa_nil)) (pg_name (i := 3) sc_L_name.nd rfl (Or.inl rfl))
    (pss_one (ps_set (i := 2) sc_L_name.nd rfl (Or.inl rfl) (pe_op op_add_str (pv 2) (pe_item_str (pe_op op_add_str (pv 1) pe_str) (pe_call G_L_draw.ok (hr.mono (by decide)) rfl T.g_law_draw G_L_draw.kp G_L_draw.bd .nil pass0 (pa_cons (pv 0) (pa_cons pe_int pa_nil))) (fun _ _ => rfl))))))
    (pss_cons (ps_if (pt_cmpR op_in_seq (pv 2) (pe_lst (pa_cons pe_str (pa_cons pe_str (pa_cons pe_str (pa_cons pe_str (pa_cons pe_str (pa_cons pe_str (pa_cons pe_str (pa_cons pe_str (pa_cons pe_str pa_nil)))))))))) rfl)
    (pss_one (ps_set (i := 2) sc_L_name.nd rfl (Or.inl rfl) (pe_op op_add_str (pv 2) pe_str)))
    pss_nil)
    (pss_one (ps_ret (pv 2)))))))), ?_⟩
  have l26 : ("abcdefghijklmnopqrstuvwxyz" : Str).length = 26 := by decide +kernel
  have l36 : (("abcdefghijklmnopqrstuvwxyz" : Str) ++ ("0123456789" : Str)).length = 36 := by decide +kernel
  have one : ∀ c : Nat, (⟨#[c]⟩ : Str).length = 1 := fun c => rfl
  refine ⟨_, rfl, d, La, i, 2, rfl, dp, by decide, by decide, fun r1 H1 _ _ d1 m1 => ⟨rfl, _, rfl, ifB (fun _ => ?_) (fun _ => ?_)⟩⟩
  · refine ⟨_, rfl, _, rfl, d, La, i, 4, rfl, d1, by decide, by decide, fun r2 H2 a0 a1 d2 m2 => ?_⟩
    obtain ⟨i0, i1, i2, c, hc⟩ := str_ix _ l26 (by decide) a0 (show r2 < ((26 : Nat) : Int) by omega)
    exact ⟨_, _, c, rfl, rfl, i0, i1, i2, hc, q _ _ (by rw [one]; decide) d2 (m1.trans m2)⟩
  refine ⟨_, rfl, _, rfl, d, La, i, 26, rfl, d1, by decide, by decide, fun r2 H2 a0 a1 d2 m2 => ?_⟩
  obtain ⟨i0, i1, i2, c, hc⟩ := str_ix _ l26 (by decide) a0 (show r2 < ((26 : Nat) : Int) by omega)
  refine ⟨_, _, c, rfl, rfl, i0, i1, i2, hc, ?_⟩
  refine ⟨_, rfl, d, La, i, 8, rfl, d2, by decide, by decide, fun r3 H3 b0 b1 d3 m3 => ?_⟩
  refine ⟨_, rfl, by omega, by omega, for_range (n := r3.toNat) (fun j σ G => ∃ x v4, x.length ≤ j + 1 ∧ σ = [some (.ref d), some (.str "abcdefghijklmnopqrstuvwxyz"), some (.str x), v4] ∧ DealP G d La i ∧ DMv d La H G)
    ⟨_, _, by rw [one]; decide, rfl, d3, m1.trans (m2.trans m3)⟩ ?_ ?_⟩
  · rintro j σ G hj ⟨x, v4, lx, rfl, dG, mG⟩
    refine ⟨_, rfl, ⟨_, rfl, _, _, rfl, rfl, by rw [← strLen_append, l36]; exact small50 (by decide), _, rfl, d, La, i, 36, rfl, dG, by decide, by decide, fun r4 H4 e0 e1 d4 m4 => ?_⟩⟩
    obtain ⟨j0, j1, j2, c', hc'⟩ := str_ix _ l36 (by decide) e0 (show r4 < ((36 : Nat) : Int) by omega)
    refine ⟨_, _, c', rfl, rfl, j0, j1, j2, hc', _, _, rfl, rfl, by rw [← strLen_append, strLen_append, one]; exact small50 (by omega), ?_⟩
    exact ⟨_, _, by rw [strLen_append, one]; omega, rfl, d4, mG.trans m4⟩
  · rintro σ G ⟨x, v4, lx, rfl, dG, mG⟩
    refine ⟨_, rfl, small50 (by simp), fun L hL => ?_⟩
    have e1 := same_new (o := .lst [.str "fun", .str "let", .str "choose", .str "first", .str "stop", .str "rows", .str "in", .str "when", .str "be"]) hL
    refine ⟨L, _, rfl, .inl (SqL.of upd_same), rfl, rfl, _, rfl, ifB (fun _ => ?_) (fun _ => ?_)⟩
    · have l1 : ("0" : Str).length = 1 := by decide +kernel
      refine ⟨_, rfl, _, _, rfl, rfl, by rw [l1]; exact small50 (by omega), ?_⟩
      exact ⟨_, rfl, q _ _ (by rw [strLen_append, l1]; omega) (dG.same e1) (mG.trans (DMv.same e1))⟩
    · exact ⟨_, rfl, q _ _ (by omega) (dG.same e1) (mG.trans (DMv.same e1))⟩
theorem DealP.mv {H H' : Hp} {d La : Addr} {i : Int} (h : DealP H d La i) (m : DMv d La H H') : TupK H H' := h.tupK m
theorem at_three (x y z : V) (r : Int) : ∃ u, (u = x ∨ u = y ∨ u = z) ∧ atI [x, y, z] (r % 3) = some u := by
  have h0 : 0 ≤ r % 3 := Int.emod_nonneg _ (by decide)
  have h1 : r % 3 < 3 := Int.emod_lt_of_pos _ (by decide)
  have h : r % 3 = 0 ∨ r % 3 = 1 ∨ r % 3 = 2 := by omega
  rcases h with h | h | h
  · exact ⟨x, .inl rfl, by rw [h]; rfl⟩
  · exact ⟨y, .inr (.inl rfl), by rw [h]; rfl⟩
  · exact ⟨z, .inr (.inr rfl), by rw [h]; rfl⟩
theorem ok_kind (T : Top K mg) : ∀ n : Nat, Keeps P w K mg base CX0 (n + 2) d_L_kind P_L_kind (spKind n)
  | 0 => by
    obtain ⟨fd, F, bd⟩ := T.f_L_kind
    have no : ∀ vs H Q E, ¬ spKind 0 vs H Q E := fun vs H Q E h => by
      obtain ⟨d, La, i, f, hf, _⟩ := h
      omega
    exact ⟨fd, ⟨fun vs H Q E h => absurd h (no vs H Q E), fun A outer s H args us vs Q E _ _ _ _ h => absurd h (no vs H Q E)⟩, bd, F.kp⟩
  | n + 1 => by
    obtain ⟨fd, F, bd⟩ := T.f_L_kind
    obtain ⟨_, G_L_draw⟩ := ok_draw (P := P) (w := w) (base := base) T
    obtain ⟨_, G_L_kind⟩ := ok_kind T n
    refine keeps0 F bd sc_L_kind (fun vs H Q E h => ?_) (fun cdv AA outer sh H vs Q E hr h => ?_)
    · obtain ⟨d, La, i, f, _, rfl, _⟩ := h
      rfl
    obtain ⟨d, La, i, f, hf, rfl, dp, q⟩ := h
    refine ⟨_, (pss_cons (ps_set (i := 2) sc_L_kind.nd rfl (Or.inl rfl) (pe_call G_L_draw.ok (hr.mono (by omega)) rfl T.g_law_draw G_L_draw.kp G_L_draw.bd .nil pass0 (pa_cons (pv 0) (pa_cons pe_int pa_nil))))
    (pss_cons (ps_if (PW.pt (pw_or (pt_cmpR op_eq (pv 1) pe_int (nomark _)) (pw_or1 (pt_cmpR op_lt (pv 2) pe_int (nomark _)))))
    (pss_one (ps_ret (pe_ix ix_list (pe_lst (pa_cons (pe_tup (pa_cons pe_str pa_nil)) (pa_cons (pe_tup (pa_cons pe_str pa_nil)) (pa_cons (pe_tup (pa_cons pe_str pa_nil)) pa_nil)))) (pe_op op_mod (pv 2) pe_int) (fun _ _ => rfl))))
    pss_nil)
    (pss_cons (ps_set (i := 3) sc_L_kind.nd rfl (Or.inl rfl) (pe_call G_L_kind.ok (hr.mono (by omega)) rfl T.g_law_kind G_L_kind.kp G_L_kind.bd .nil pass0 (pa_cons (pv 0) (pa_cons (pe_op op_sub (pv 1) pe_int) pa_nil))))
    (pss_cons (ps_if (pt_cmpR op_eq (pv 2) pe_int (nomark _))
    (pss_one (ps_ret (pe_tup (pa_cons pe_str (pa_cons (pv 3) pa_nil)))))
    pss_nil)
    (pss_one (ps_ret (pe_tup (pa_cons (pe_ix ix_list (pe_lst (pa_cons pe_str (pa_cons pe_str pa_nil))) (pe_op op_sub (pv 2) pe_int) (fun _ _ => rfl)) (pa_cons (pv 3) (pa_cons (pe_call G_L_kind.ok (hr.mono (by omega)) rfl T.g_law_kind G_L_kind.kp G_L_kind.bd .nil pass0 (pa_cons (pv 0) (pa_cons (pe_op op_sub (pv 1) pe_int) pa_nil))) pa_nil)))))))))), ?_⟩
    refine ⟨_, rfl, d, La, i, 6, rfl, dp, by decide, by decide, fun way H1 w0 w1 d1 m1 => ?_⟩
    refine ⟨_, rfl, rfl, _, rfl, ifB (fun _ => ifT rfl ?_) (fun hz => ?_)⟩
    ·
      refine ⟨small50 (by simp), fun b1 hb1 => ⟨small50 (by simp), fun b2 hb2 => ⟨small50 (by simp), fun b3 hb3 => ⟨small50 (by simp), fun b4 hb4 => ?_⟩⟩⟩⟩
      have e1 := same_new (o := .tup [.str "num"]) hb1
      have e2 := same_new (o := .tup [.str "truth"]) hb2
      have e3 := same_new (o := .tup [.str "num"]) hb3
      have e4 := same_new (o := .lst [.ref b1, .ref b2, .ref b3]) hb4
      have a3 := e4
      have a2 := e3.trans a3
      have a1 := e2.trans a2
      have a0 := e1.trans a1
      obtain ⟨u, hu, hat⟩ := at_three (.ref b1) (.ref b2) (.ref b3) way
      refine ⟨_, rfl, _, _, rfl, rfl, (by decide : (0 : Int) < 3), b4, _, _, u, rfl, rfl, SqL.of upd_same, hat, ?_⟩
      rcases hu with rfl | rfl | rfl
      · exact q .num _ _ (by show 1 ≤ _; omega) ⟨b1, rfl, a1 _ _ upd_same⟩ (d1.same a0) (m1.trans (DMv.same a0))
      · exact q .truth _ _ (by show 1 ≤ _; omega) ⟨b2, rfl, a2 _ _ upd_same⟩ (d1.same a0) (m1.trans (DMv.same a0))
      · exact q .num _ _ (by show 1 ≤ _; omega) ⟨b3, rfl, a3 _ _ upd_same⟩ (d1.same a0) (m1.trans (DMv.same a0))
    refine ⟨_, rfl, _, _, rfl, rfl, _, rfl, ifB (fun _ => ?_) (fun hw => ?_)⟩
    ·
      refine ⟨small50 (by simp), fun b1 hb1 => ⟨small50 (by simp), fun b2 hb2 => ⟨small50 (by simp), fun b3 hb3 => ⟨small50 (by simp), fun b4 hb4 => ?_⟩⟩⟩⟩
      have e1 := same_new (o := .tup [.str "num"]) hb1
      have e2 := same_new (o := .tup [.str "truth"]) hb2
      have e3 := same_new (o := .tup [.str "num"]) hb3
      have e4 := same_new (o := .lst [.ref b1, .ref b2, .ref b3]) hb4
      have a3 := e4
      have a2 := e3.trans a3
      have a1 := e2.trans a2
      have a0 := e1.trans a1
      obtain ⟨u, hu, hat⟩ := at_three (.ref b1) (.ref b2) (.ref b3) way
      refine ⟨_, rfl, _, _, rfl, rfl, (by decide : (0 : Int) < 3), b4, _, _, u, rfl, rfl, SqL.of upd_same, hat, ?_⟩
      rcases hu with rfl | rfl | rfl
      · exact q .num _ _ (by show 1 ≤ _; omega) ⟨b1, rfl, a1 _ _ upd_same⟩ (d1.same a0) (m1.trans (DMv.same a0))
      · exact q .truth _ _ (by show 1 ≤ _; omega) ⟨b2, rfl, a2 _ _ upd_same⟩ (d1.same a0) (m1.trans (DMv.same a0))
      · exact q .num _ _ (by show 1 ≤ _; omega) ⟨b3, rfl, a3 _ _ upd_same⟩ (d1.same a0) (m1.trans (DMv.same a0))
    have hfp : 0 < f := by
      have z : ¬ (V.int ((f : Nat) : Int) = .int 0) := of_decide_eq_false hz
      have : f ≠ 0 := fun e => z (by rw [e]; rfl)
      omega
    have hw3 : 3 ≤ way := by
      have := of_decide_eq_false hw
      omega
    have ef : ((f : Nat) : Int) - 1 = ((f - 1 : Nat) : Int) := by omega
    refine ⟨_, rfl, _, rfl, _, _, rfl, rfl, ?_⟩
    refine ⟨d, La, i, f - 1, by omega, by rw [← ef]; rfl, d1, fun k1 v1 H2 hk1 ha1 d2 m2 => ?_⟩
    refine ⟨_, rfl, rfl, _, rfl, ifB (fun _ => ?_) (fun hn => ?_)⟩
    · refine ⟨_, rfl, small50 (by simp), fun r hr' => ?_⟩
      have e := same_new (o := .tup [.str "list", v1]) hr'
      exact q (.list k1) _ _ (by show k1.dep + 1 ≤ _; omega) ⟨r, v1, rfl, upd_same, ha1.keep (sameTupK e)⟩ (d2.same e) ((m1.trans m2).trans (DMv.same e))
    · refine ⟨small50 (by simp), fun b1 hb1 => ?_⟩
      have e1 := same_new (o := .lst [.str "pair", .str "to"]) hb1
      have hw4 : way = 4 ∨ way = 5 := by
        have z : ¬ (V.int way = .int 3) := of_decide_eq_false hn
        have : way ≠ 3 := fun e => z (by rw [e])
        omega
      have hat : ∃ s : Str, (s = "pair" ∨ s = "to") ∧ atI [V.str "pair", V.str "to"] (way - 4) = some (.str s) := by
        rcases hw4 with e | e
        · exact ⟨"pair", .inl rfl, by rw [e]; rfl⟩
        · exact ⟨"to", .inr rfl, by rw [e]; rfl⟩
      obtain ⟨s, hs, hat⟩ := hat
      refine ⟨_, rfl, _, _, rfl, rfl, b1, _, _, _, rfl, rfl, SqL.of upd_same, hat, _, rfl, ⟨_, rfl, _, rfl, _, _, rfl, rfl, ?_⟩⟩
      refine ⟨d, La, i, f - 1, by omega, by rw [← ef]; rfl, d2.same e1, fun k2 v2 H3 hk2 ha2 d3 m3 => ?_⟩
      refine ⟨small50 (by simp), fun r hr' => ?_⟩
      have e := same_new (o := .tup [.str s, v1, v2]) hr'
      have t3 := (d2.same e1).tupK m3
      have ha1' := ((ha1.keep (sameTupK e1)).keep t3).keep (sameTupK e)
      have ha2' := ha2.keep (sameTupK e)
      have mm := ((m1.trans m2).trans (DMv.same e1)).trans (m3.trans (DMv.same e))
      rcases hs with rfl | rfl
      · exact q (.pair k1 k2) _ _ (by show max k1.dep k2.dep + 1 ≤ _; omega) ⟨r, v1, v2, rfl, upd_same, ha1', ha2'⟩ (d3.same e) mm
      · exact q (.to k1 k2) _ _ (by show max k1.dep k2.dep + 1 ≤ _; omega) ⟨r, v1, v2, rfl, upd_same, ha1', ha2'⟩ (d3.same e) mm
end
end W83

namespace W83
open PySem PySem.Spec PyProof.Rows L2
abbrev N_L_leaf : List Str := ["_law_deal_here", "_law_want", "_law_names", "_law_fitting", "_law_name_here", "_law_kind_here"]
abbrev P_L_leaf : List Str := ["_law_deal_here", "_law_want", "_law_names"]
theorem sc_L_leaf : FnScope N_L_leaf P_L_leaf d_L_leaf.scope := ⟨rfl, rfl, rfl, by decide +kernel, rfl, by decide +kernel, by decide +kernel⟩

def Kn.dat : Kn → PyData
  | .num => .tuple [.str "num"] | .truth => .tuple [.str "truth"] | .list a => .tuple [.str "list", a.dat] | .pair a b => .tuple [.str "pair", a.dat, b.dat] | .to a b => .tuple [.str "to", a.dat, b.dat]
theorem Kn.At.dp {K : PySem.W.Frag} {H : Hp} : ∀ {k : Kn} {v : V}, k.At H v → Dp K H v k.dat
  | .num, _, ⟨a, e, h⟩ => e ▸ .tup (SqT.of h) (.cons (.str _) .nil)
  | .truth, _, ⟨a, e, h⟩ => e ▸ .tup (SqT.of h) (.cons (.str _) .nil)
  | .list _, _, ⟨a, x, e, h, h1⟩ => e ▸ .tup (SqT.of h) (.cons (.str _) (.cons (Kn.At.dp h1) .nil))
  | .pair _ _, _, ⟨a, x, y, e, h, h1, h2⟩ => e ▸ .tup (SqT.of h) (.cons (.str _) (.cons (Kn.At.dp h1) (.cons (Kn.At.dp h2) .nil)))
  | .to _ _, _, ⟨a, x, y, e, h, h1, h2⟩ => e ▸ .tup (SqT.of h) (.cons (.str _) (.cons (Kn.At.dp h1) (.cons (Kn.At.dp h2) .nil)))
theorem Kn.lay : ∀ k : Kn, k.dat.canLay0 = true
  | .num => by simp [Kn.dat, PyData.canLay0, PyData.canLayAll0]; decide +kernel
  | .truth => by simp [Kn.dat, PyData.canLay0, PyData.canLayAll0]; decide +kernel
  | .list a => by
    simp only [Kn.dat, PyData.canLay0, PyData.canLayAll0, Kn.lay a, Bool.and_true]
    decide +kernel
  | .pair a b => by
    simp only [Kn.dat, PyData.canLay0, PyData.canLayAll0, Kn.lay a, Kn.lay b, Bool.and_true]
    decide +kernel
  | .to a b => by
    simp only [Kn.dat, PyData.canLay0, PyData.canLayAll0, Kn.lay a, Kn.lay b, Bool.and_true]
    decide +kernel
theorem Kn.depth : ∀ k : Kn, k.dat.depth ≤ k.dep
  | .num => by simp [Kn.dat, PyData.depth, PyData.depthAll, Kn.dep]
  | .truth => by simp [Kn.dat, PyData.depth, PyData.depthAll, Kn.dep]
  | .list a => by
    have := Kn.depth a
    simp only [Kn.dat, PyData.depth, PyData.depthAll, Kn.dep]
    omega
  | .pair a b => by
    have := Kn.depth a
    have := Kn.depth b
    simp only [Kn.dat, PyData.depth, PyData.depthAll, Kn.dep]
    omega
  | .to a b => by
    have := Kn.depth a
    have := Kn.depth b
    simp only [Kn.dat, PyData.depth, PyData.depthAll, Kn.dep]
    omega
theorem Kn.shaped (k : Kn) (h : k.dep ≤ 64) : SeqAt.shaped k.dat = true := by
  have := Kn.depth k
  show (k.dat.canLay0 && decide (k.dat.depth ≤ 64)) = true
  rw [Kn.lay, decide_eq_true (by omega)]
  rfl
theorem kn_head {H : Hp} : ∀ {k : Kn} {v : V}, k.At H v → ∃ a z zs, v = .ref a ∧ H a = some (.tup (.str z :: zs))
  | .num, _, ⟨a, e, h⟩ => ⟨a, _, _, e, h⟩
  | .truth, _, ⟨a, e, h⟩ => ⟨a, _, _, e, h⟩
  | .list _, _, ⟨a, x, e, h, h1⟩ => ⟨a, _, _, e, h⟩
  | .pair _ _, _, ⟨a, x, y, e, h, h1, h2⟩ => ⟨a, _, _, e, h⟩
  | .to _ _, _, ⟨a, x, y, e, h, h1, h2⟩ => ⟨a, _, _, e, h⟩
theorem shaped_num : SeqAt.shaped (.tuple [.str "num"]) = true := Kn.shaped .num (by decide)
theorem shaped_truth : SeqAt.shaped (.tuple [.str "truth"]) = true := Kn.shaped .truth (by decide)
structure NamesB (B : Nat) (H : Hp) (n : Addr) (kvs : List (Key × V)) (N : Nat) : Prop where
  at_ : H n = some (.dK kvs)
  len : kvs.length ≤ N
  vals : ∀ q ∈ kvs, ∃ (x : Str) (k : Kn), q.1 = .inr x ∧ k.At H q.2 ∧ k.dep ≤ B
abbrev NamesD (H : Hp) (n : Addr) (kvs : List (Key × V)) (N : Nat) : Prop := NamesB 60 H n kvs N
theorem NamesB.ne {B : Nat} {H : Hp} {n d La : Addr} {i : Int} {kvs : List (Key × V)} {N : Nat} (h : NamesB B H n kvs N) (dp : DealP H d La i) : n ≠ d ∧ n ≠ La := by
  obtain ⟨b, s, m, l, h1, h2, _⟩ := dp
  refine ⟨?_, ?_⟩
  · rintro rfl
    have e := h.at_
    rw [h1] at e
    have e : dkv b s m La i = kvs := by
      have := Option.some.inj e
      injection this
    obtain ⟨x, k, _, hk, _⟩ := h.vals (.inr "mixed", .bl b) (by rw [← e]; exact List.mem_cons_self)
    cases k <;> simp [Kn.At] at hk
  · rintro rfl
    have e := h.at_
    rw [h2] at e
    cases e
theorem NamesB.mv {B : Nat} {H H' : Hp} {n d La : Addr} {i : Int} {kvs : List (Key × V)} {N : Nat} (h : NamesB B H n kvs N) (dp : DealP H d La i) (m : DMv d La H H') : NamesB B H' n kvs N :=
  ⟨m _ _ h.at_ (h.ne dp).1 (h.ne dp).2, h.len, fun q hq => by
    obtain ⟨x, k, h1, h2, h3⟩ := h.vals q hq
    exact ⟨x, k, h1, h2.keep (dp.tupK m), h3⟩⟩
def spLeaf : Sp := fun vs H Q _ => ∃ (d La n : Addr) (i : Int) (kw : Kn) (wv : V) (kvs : List (Key × V)), vs = [.ref d, wv, .ref n] ∧ DealP H d La i ∧ kw.At H wv ∧ kw.dep ≤ 60 ∧ NamesD H n kvs 200 ∧ ∀ (v : V) (H' : Hp), Tm F0 H' 1 v → DealP H' d La i → DMv d La H H' → Q v H'
section
variable {P : Program} {w : World} {K : PySem.W.Frag} {mg : Str → Option Value} {base : Heap}
theorem ok_leaf (T : Top K mg) : Keeps P w K mg base CX0 3 d_L_leaf P_L_leaf spLeaf := by
  obtain ⟨fd, F, bd⟩ := T.f_L_leaf
  obtain ⟨_, G_L_draw⟩ := ok_draw (P := P) (w := w) (base := base) T
  obtain ⟨_, G_L_name⟩ := ok_name (P := P) (w := w) (base := base) T
  refine keeps0 F bd sc_L_leaf (fun vs H Q E h => ?_) (fun cdv AA outer sh H vs Q E hr h => ?_)
  · obtain ⟨d, La, n, i, kw, wv, kvs, rfl, _⟩ := h
    rfl
  obtain ⟨d, La, n, i, kw, wv, kvs, rfl, dp, hkw, hkd, hn, q⟩ := h
  refine ⟨_, (pss_cons (ps_lock (ps_setLc (i := 3) (own := [("_law_name_here", 4), ("_law_kind_here", 5)]) (g := gTup K 2 (gCons (gName 4) (gCons (gName 5) gNil))) rfl sc_L_leaf.nd rfl rfl (sw_true rfl rfl rfl (by decide +kernel)) (pi_items (pv 2)) (blkOk_by (own := [("_law_name_here", 4), ("_law_kind_here", 5)]) (N := N_L_leaf) (sc := d_L_leaf.scope) (by decide +kernel)) (fun _ _ _ _ _ => (pg_tup rfl (pgs_cons (pg_name (i := 4) sc_L_leaf.nd rfl (Or.inl rfl)) (pgs_cons (pg_name (i := 5) sc_L_leaf.nd rfl (Or.inl rfl)) pgs_nil)))) (fun _ _ _ _ _ => (pts_one (pt_cmpR (show OpR _ (compareOp .Eq) (rEqD K) from op_eqD hr.units) (pv 5) (pv 1) (nomark _)))) (fun _ _ _ _ _ => (pv 4))))
    (pss_cons (ps_if (PW.pt (pw_and (pt_cmpR op_gt (pe_callB call_len_seq (by rfl) T.z_len PySem.boot_len (pa_cons (pv 3) pa_nil)) pe_int (nomark _)) (pw_and1 (pt_cmpR op_gt (pe_call G_L_draw.ok (hr.mono (by decide)) rfl T.g_law_draw G_L_draw.kp G_L_draw.bd .nil pass0 (pa_cons (pv 0) (pa_cons pe_int pa_nil))) pe_int (nomark _)))))
    (pss_one (ps_ret (pe_tup (pa_cons pe_str (pa_cons (pe_ix ix_list (pv 3) (pe_call G_L_draw.ok (hr.mono (by decide)) rfl T.g_law_draw G_L_draw.kp G_L_draw.bd .nil pass0 (pa_cons (pv 0) (pa_cons (pe_callB call_len_seq (by rfl) T.z_len PySem.boot_len (pa_cons (pv 3) pa_nil)) pa_nil))) (fun _ _ => rfl)) pa_nil)))))
    pss_nil)
    (pss_cons (ps_if (PW.pt (pw_or (pt_cmpR op_in_seq (pe_ix ix_tup (pv 1) pe_int (fun _ _ => rfl)) (pe_lst (pa_cons pe_str (pa_cons pe_str pa_nil))) rfl) (pw_or1 (pt_cmpR op_eq (pe_call G_L_draw.ok (hr.mono (by decide)) rfl T.g_law_draw G_L_draw.kp G_L_draw.bd .nil pass0 (pa_cons (pv 0) (pa_cons pe_int pa_nil))) pe_int (nomark _)))))
    (pss_one (ps_ret (pe_tup (pa_cons pe_str (pa_cons (pe_call G_L_name.ok (hr.mono (by decide)) rfl T.g_law_name G_L_name.kp G_L_name.bd .nil pass0 (pa_cons (pv 0) pa_nil)) pa_nil)))))
    pss_nil)
    (pss_cons (ps_if (pt_cmpR (op_eqD hr.units) (pv 1) (pe_tup (pa_cons pe_str pa_nil)) (nomark _))
    (pss_one (ps_ret (pe_tup (pa_cons pe_str (pa_cons (pe_call G_L_draw.ok (hr.mono (by decide)) rfl T.g_law_draw G_L_draw.kp G_L_draw.bd .nil pass0 (pa_cons (pv 0) (pa_cons (pe_op op_pow pe_int pe_int) pa_nil))) pa_nil)))))
    pss_nil)
    (pss_cons (ps_if (pt_cmpR (op_eqD hr.units) (pv 1) (pe_tup (pa_cons pe_str pa_nil)) (nomark _))
    (pss_one (ps_ret (pe_tup (pa_cons pe_str (pa_cons (pe_ix ix_list (pe_lst (pa_cons pe_str (pa_cons pe_str pa_nil))) (pe_call G_L_draw.ok (hr.mono (by decide)) rfl T.g_law_draw G_L_draw.kp G_L_draw.bd .nil pass0 (pa_cons (pv 0) (pa_cons pe_int pa_nil))) (fun _ _ => rfl)) (pa_cons (pe_tup pa_nil) pa_nil))))))
    pss_nil)
    (pss_one (ps_ret (pe_tup (pa_cons pe_str (pa_cons pe_str (pa_cons (pe_tup pa_nil) pa_nil))))))))))), ?_⟩
  obtain ⟨a0, z0, zs0, rfl, hw0⟩ := kn_head hkw
  refine ⟨n, .dK kvs, hn.at_, trivial, fun od => ?_⟩
  refine ⟨_, rfl, n, od, kvs, rfl, upd_same, fun L hL => ?_⟩
  have nLn : L ≠ n := fun z => by rw [z, upd_same] at hL; cases hL
  have hL0 : H L = none := by rw [upd_ne nLn] at hL; exact hL
  refine lc_it walk_items (fun i G => G n = some (.frz od (.dK kvs)) ∧ (∀ b o, H b = some o → b ≠ n → G b = some o) ∧ ∃ acc : List Str, G L = some (.lst (acc.map V.str)) ∧ acc.length ≤ i)
    ⟨by rw [upd_ne (Ne.symm nLn), upd_same], fun b o e hb => by rw [upd_ne (ne_of_none e hL0), upd_ne hb]; exact e, [], upd_same, Nat.le_refl _⟩ (fun i G _ h => h.1) ?_ ?_
  · rintro i v G G' hi ⟨g1, g2, acc, g3, g4⟩ ⟨t, x, y, rfl, ht, rfl, hx, hy⟩
    have hkv : kvs[i]? = some kvs[i] := List.getElem?_eq_getElem hi
    dsimp only at hx hy
    rw [hkv] at hx hy
    cases hx
    cases hy
    obtain ⟨x, k, ex, hk, hkd'⟩ := hn.vals kvs[i] (List.getElem_mem hi)
    have ntn : n ≠ t := ne_of_none g1 ht
    have ntL : L ≠ t := ne_of_none g3 ht
    have tk : TupK H (upd G t (.tup [kV kvs[i].1, kvs[i].2])) := fun c xs hc => by
      have nc : c ≠ n := fun z => by rw [z, hn.at_] at hc; cases hc
      have := g2 c _ hc nc
      rw [upd_ne (ne_of_none this ht)]
      exact this
    have keep : ∀ b o, H b = some o → b ≠ n → upd G t (.tup [kV kvs[i].1, kvs[i].2]) b = some o := fun b o e hb => by
      rw [upd_ne (ne_of_none (g2 b o e hb) ht)]
      exact g2 b o e hb
    refine ⟨t, _, rfl, SqT.of upd_same, rfl, _, _, rfl, _, _, rfl, rfl, rfl, ?_⟩
    have gn' : upd G t (.tup [kV kvs[i].1, kvs[i].2]) n = some (.frz od (.dK kvs)) := by rw [upd_ne ntn]; exact g1
    have gL' : upd G t (.tup [kV kvs[i].1, kvs[i].2]) L = some (.lst (acc.map V.str)) := by rw [upd_ne ntL]; exact g3
    refine ⟨_, rfl, _, rfl, k.dat, kw.dat, (hk.keep tk).dp, (hkw.keep tk).dp, k.shaped (by omega), kw.shaped (by omega), _, rfl, ifB (fun _ => ?_) (fun _ => ?_)⟩
    · refine ⟨_, rfl, _, gL', small9 (by rw [List.length_map]; have := hn.len; omega), by rw [upd_ne nLn.symm]; exact gn', fun b o e hb => by rw [upd_ne (ne_of_none e hL0)]; exact keep b o e hb, acc ++ [x], ?_, by rw [List.length_append]; simp; omega⟩
      rw [upd_same, List.map_append]
      show some (HO.lst (acc.map V.str ++ [kV kvs[i].1])) = _
      rw [ex]
      rfl
    · exact ⟨gn', keep, acc, gL', by omega⟩
  rintro G ⟨g1, g2, acc, g3, g4⟩
  refine ⟨g1, ?_⟩
  have sU : Same H (upd G n (.dK kvs)) := unlocked hn.at_ g2
  have gLu : upd G n (.dK kvs) L = some (.lst (acc.map V.str)) := by rw [upd_ne nLn]; exact g3
  obtain ⟨G0, hG0⟩ : ∃ G0, G0 = upd G n (.dK kvs) := ⟨_, rfl⟩
  rw [← hG0] at sU gLu
  rw [← hG0]
  have d0 := dp.same sU
  have kw0 := hkw.keep (sameTupK sU)
  have m0 : DMv d La H G0 := DMv.same sU
  have nLd : L ≠ d ∧ L ≠ La := by
    obtain ⟨b, s, m, l, h1, h2, _⟩ := dp
    exact ⟨(fun z => by rw [z, h1] at hL0; cases hL0), (fun z => by rw [z, h2] at hL0; cases hL0)⟩
  have hal := hn.len
  refine ⟨_, rfl, L, _, rfl, .inl (SqL.of gLu), _, _, rfl, rfl, _, rfl, ifB (fun hl => ?_) (fun _ => ifF rfl ?_)⟩
  · refine ⟨_, rfl, d, La, i, 4, rfl, d0, by decide, by decide, fun r1 H1 _ _ d1 mx1 => ⟨_, _, rfl, rfl, _, rfl, ifB (fun _ => ?_) (fun _ => ?_)⟩⟩
    · have gL1 := mx1 _ _ gLu nLd.1 nLd.2
      have hpos : (0 : Int) < (((acc.map V.str).length : Nat) : Int) := of_decide_eq_true hl
      rw [List.length_map] at hpos
      refine ⟨_, rfl, _, rfl, _, rfl, L, _, rfl, .inl (SqL.of gL1), ?_⟩
      refine ⟨d, La, i, _, rfl, d1, by rw [List.length_map]; exact hpos, by rw [List.length_map]; have : big = 1000000000000000000 := rfl; omega, fun r2 H2 a1 a2 d2 m2 => ?_⟩
      rw [List.length_map] at a2
      obtain ⟨k, hk⟩ : ∃ k : Nat, r2 = ((k : Nat) : Int) := ⟨_, (Int.toNat_of_nonneg a1).symm⟩
      have hka : k < acc.length := by omega
      have hat : atI (acc.map V.str) r2 = some (.str acc[k]) := by
        rw [hk]
        exact at_get (by rw [List.getElem?_map, List.getElem?_eq_getElem hka]; rfl)
      refine ⟨L, _, _, _, rfl, rfl, SqL.of (m2 _ _ gL1 nLd.1 nLd.2), hat, small50 (by simp), fun r hr' => ?_⟩
      have e := same_new (o := .tup [.str "name", .str acc[k]]) hr'
      exact q _ _ ⟨r, _, rfl, upd_same, .name _⟩ (d2.same e) (m0.trans (mx1.trans (m2.trans (DMv.same e))))
    · have m1 := m0.trans mx1
      have hw1 := (dp.tupK m1) _ _ hw0
      refine ⟨_, rfl, a0, _, _, _, rfl, rfl, SqT.of hw1, at_get (i := 0) rfl, small50 (by simp), fun l2 hl2 => ?_⟩
      have f0 := same_new (o := .lst [.str "to", .str "pair"]) hl2
      have d2 := d1.same f0
      have m2 := m1.trans (DMv.same f0)
      refine ⟨l2, _, rfl, .inl (SqL.of upd_same), rfl, rfl, _, rfl, ifB (fun _ => ifT rfl ?_) (fun _ => ?_)⟩
      · have dc := d2
        have mc := m2
        refine ⟨_, rfl, d, La, i, rfl, dc, fun x Hx _ dx mx => ⟨small50 (by simp), fun r hr' => ?_⟩⟩
        have e := same_new (o := .tup [.str "stop", .str x]) hr'
        exact q _ _ ⟨r, _, rfl, upd_same, .stop x⟩ (dx.same e) (mc.trans (mx.trans (DMv.same e)))
      · refine ⟨_, rfl, d, La, i, 12, rfl, d2, by decide, by decide, fun r3 H3 _ _ d3 m3 => ⟨rfl, _, rfl, ifB (fun _ => ?_) (fun _ => ?_)⟩⟩
        · have dc := d3
          have mc := m2.trans m3
          refine ⟨_, rfl, d, La, i, rfl, dc, fun x Hx _ dx mx => ⟨small50 (by simp), fun r hr' => ?_⟩⟩
          have e := same_new (o := .tup [.str "stop", .str x]) hr'
          exact q _ _ ⟨r, _, rfl, upd_same, .stop x⟩ (dx.same e) (mc.trans (mx.trans (DMv.same e)))
        · have dc := d3
          have mc := m2.trans m3
          have tk := dp.tupK mc
          have kwc := hkw.keep tk
          refine ⟨_, rfl, small50 (by simp), fun t1 ht1 => ?_⟩
          have f1 := same_new (o := .tup [.str "num"]) ht1
          refine ⟨kw.dat, .tuple [.str "num"], (kwc.keep (sameTupK f1)).dp, .tup (SqT.of upd_same) (.cons (.str _) .nil), kw.shaped (by omega), shaped_num, _, rfl, ifB (fun _ => ?_) (fun _ => ?_)⟩
          · have eb : ((10 : Int) ^ (18 : Int).toNat) = big := by decide
            refine ⟨_, rfl, _, _, rfl, rfl, ⟨by decide, by decide, by decide⟩, ?_⟩
            refine ⟨d, La, i, _, rfl, dc.same f1, by decide, by decide, fun x Hx x0 x1 dx mx => ⟨small50 (by simp), fun r hr' => ?_⟩⟩
            have e := same_new (o := .tup [.str "number", .int x]) hr'
            exact q _ _ ⟨r, _, rfl, upd_same, .number x x0 (by rw [← eb]; exact x1)⟩ (dx.same e) (mc.trans ((DMv.same f1).trans (mx.trans (DMv.same e))))
          refine ⟨_, rfl, small50 (by simp), fun t2 ht2 => ?_⟩
          have f2 := same_new (o := .tup [.str "truth"]) ht2
          have f12 := f1.trans f2
          refine ⟨kw.dat, .tuple [.str "truth"], (kwc.keep (sameTupK f12)).dp, .tup (SqT.of upd_same) (.cons (.str _) .nil), kw.shaped (by omega), shaped_truth, _, rfl, ifB (fun _ => ?_) (fun _ => ?_)⟩
          · refine ⟨small50 (by simp), fun l3 hl3 => ?_⟩
            have f3 := same_new (o := .lst [.str "No", .str "Yes"]) hl3
            have d3 := dc.same (f12.trans f3)
            refine ⟨_, rfl, d, La, i, 2, rfl, d3, by decide, by decide, fun x Hx x0 x1 dx mx => ?_⟩
            have nl3 : l3 ≠ d ∧ l3 ≠ La := by
              obtain ⟨b, s, m, l, h1, h2, _⟩ := dc.same f12
              exact ⟨(fun z => by rw [z, h1] at hl3; cases hl3), (fun z => by rw [z, h2] at hl3; cases hl3)⟩
            obtain ⟨u, hu, hat⟩ : ∃ u : Str, u.length ≤ 10 ∧ atI [V.str "No", V.str "Yes"] x = some (.str u) := by
              have h : x = 0 ∨ x = 1 := by omega
              rcases h with h | h
              · exact ⟨"No", by decide +kernel, by rw [h]; rfl⟩
              · exact ⟨"Yes", by decide +kernel, by rw [h]; rfl⟩
            refine ⟨l3, _, _, _, rfl, rfl, SqL.of (mx _ _ upd_same nl3.1 nl3.2), hat, small50 (by simp), fun u1 hu1 => ⟨small50 (by simp), fun r hr' => ?_⟩⟩
            have e1 := same_new (o := .tup []) hu1
            have e2 := same_new (o := .tup [.str "shape", .str u, .ref u1]) hr'
            exact q _ _ ⟨r, _, rfl, upd_same, .shape u u1 [] (e2 _ _ upd_same) (by simp) (fun v hv => by cases hv) hu⟩ (dx.same (e1.trans e2)) (mc.trans ((DMv.same (f12.trans f3)).trans (mx.trans (DMv.same (e1.trans e2)))))
          · refine ⟨small50 (by simp), fun u1 hu1 => ⟨small50 (by simp), fun r hr' => ?_⟩⟩
            have e1 := same_new (o := .tup []) hu1
            have e2 := same_new (o := .tup [.str "shape", .str "Nil", .ref u1]) hr'
            have e12 := f12.trans (e1.trans e2)
            exact q _ _ ⟨r, _, rfl, upd_same, .shape _ u1 [] (e2 _ _ upd_same) (by simp) (fun v hv => by cases hv) (by decide +kernel)⟩ (dc.same e12) (mc.trans (DMv.same e12))
  · have m1 := m0
    have d1 := d0
    have hw1 := (dp.tupK m1) _ _ hw0
    refine ⟨_, rfl, a0, _, _, _, rfl, rfl, SqT.of hw1, at_get (i := 0) rfl, small50 (by simp), fun l2 hl2 => ?_⟩
    have f0 := same_new (o := .lst [.str "to", .str "pair"]) hl2
    have d2 := d1.same f0
    have m2 := m1.trans (DMv.same f0)
    refine ⟨l2, _, rfl, .inl (SqL.of upd_same), rfl, rfl, _, rfl, ifB (fun _ => ifT rfl ?_) (fun _ => ?_)⟩
    · have dc := d2
      have mc := m2
      refine ⟨_, rfl, d, La, i, rfl, dc, fun x Hx _ dx mx => ⟨small50 (by simp), fun r hr' => ?_⟩⟩
      have e := same_new (o := .tup [.str "stop", .str x]) hr'
      exact q _ _ ⟨r, _, rfl, upd_same, .stop x⟩ (dx.same e) (mc.trans (mx.trans (DMv.same e)))
    · refine ⟨_, rfl, d, La, i, 12, rfl, d2, by decide, by decide, fun r3 H3 _ _ d3 m3 => ⟨rfl, _, rfl, ifB (fun _ => ?_) (fun _ => ?_)⟩⟩
      · have dc := d3
        have mc := m2.trans m3
        refine ⟨_, rfl, d, La, i, rfl, dc, fun x Hx _ dx mx => ⟨small50 (by simp), fun r hr' => ?_⟩⟩
        have e := same_new (o := .tup [.str "stop", .str x]) hr'
        exact q _ _ ⟨r, _, rfl, upd_same, .stop x⟩ (dx.same e) (mc.trans (mx.trans (DMv.same e)))
      · have dc := d3
        have mc := m2.trans m3
        have tk := dp.tupK mc
        have kwc := hkw.keep tk
        refine ⟨_, rfl, small50 (by simp), fun t1 ht1 => ?_⟩
        have f1 := same_new (o := .tup [.str "num"]) ht1
        refine ⟨kw.dat, .tuple [.str "num"], (kwc.keep (sameTupK f1)).dp, .tup (SqT.of upd_same) (.cons (.str _) .nil), kw.shaped (by omega), shaped_num, _, rfl, ifB (fun _ => ?_) (fun _ => ?_)⟩
        · have eb : ((10 : Int) ^ (18 : Int).toNat) = big := by decide
          refine ⟨_, rfl, _, _, rfl, rfl, ⟨by decide, by decide, by decide⟩, ?_⟩
          refine ⟨d, La, i, _, rfl, dc.same f1, by decide, by decide, fun x Hx x0 x1 dx mx => ⟨small50 (by simp), fun r hr' => ?_⟩⟩
          have e := same_new (o := .tup [.str "number", .int x]) hr'
          exact q _ _ ⟨r, _, rfl, upd_same, .number x x0 (by rw [← eb]; exact x1)⟩ (dx.same e) (mc.trans ((DMv.same f1).trans (mx.trans (DMv.same e))))
        refine ⟨_, rfl, small50 (by simp), fun t2 ht2 => ?_⟩
        have f2 := same_new (o := .tup [.str "truth"]) ht2
        have f12 := f1.trans f2
        refine ⟨kw.dat, .tuple [.str "truth"], (kwc.keep (sameTupK f12)).dp, .tup (SqT.of upd_same) (.cons (.str _) .nil), kw.shaped (by omega), shaped_truth, _, rfl, ifB (fun _ => ?_) (fun _ => ?_)⟩
        · refine ⟨small50 (by simp), fun l3 hl3 => ?_⟩
          have f3 := same_new (o := .lst [.str "No", .str "Yes"]) hl3
          have d3 := dc.same (f12.trans f3)
          refine ⟨_, rfl, d, La, i, 2, rfl, d3, by decide, by decide, fun x Hx x0 x1 dx mx => ?_⟩
          have nl3 : l3 ≠ d ∧ l3 ≠ La := by
            obtain ⟨b, s, m, l, h1, h2, _⟩ := dc.same f12
            exact ⟨(fun z => by rw [z, h1] at hl3; cases hl3), (fun z => by rw [z, h2] at hl3; cases hl3)⟩
          obtain ⟨u, hu, hat⟩ : ∃ u : Str, u.length ≤ 10 ∧ atI [V.str "No", V.str "Yes"] x = some (.str u) := by
            have h : x = 0 ∨ x = 1 := by omega
            rcases h with h | h
            · exact ⟨"No", by decide +kernel, by rw [h]; rfl⟩
            · exact ⟨"Yes", by decide +kernel, by rw [h]; rfl⟩
          refine ⟨l3, _, _, _, rfl, rfl, SqL.of (mx _ _ upd_same nl3.1 nl3.2), hat, small50 (by simp), fun u1 hu1 => ⟨small50 (by simp), fun r hr' => ?_⟩⟩
          have e1 := same_new (o := .tup []) hu1
          have e2 := same_new (o := .tup [.str "shape", .str u, .ref u1]) hr'
          exact q _ _ ⟨r, _, rfl, upd_same, .shape u u1 [] (e2 _ _ upd_same) (by simp) (fun v hv => by cases hv) hu⟩ (dx.same (e1.trans e2)) (mc.trans ((DMv.same (f12.trans f3)).trans (mx.trans (DMv.same (e1.trans e2)))))
        · refine ⟨small50 (by simp), fun u1 hu1 => ⟨small50 (by simp), fun r hr' => ?_⟩⟩
          have e1 := same_new (o := .tup []) hu1
          have e2 := same_new (o := .tup [.str "shape", .str "Nil", .ref u1]) hr'
          have e12 := f12.trans (e1.trans e2)
          exact q _ _ ⟨r, _, rfl, upd_same, .shape _ u1 [] (e2 _ _ upd_same) (by simp) (fun v hv => by cases hv) (by decide +kernel)⟩ (dc.same e12) (mc.trans (DMv.same e12))
end
end W83

namespace W83
open PySem PySem.Spec PyProof.Rows L2
abbrev N_L_own : List Str := ["_law_deal_here", "_law_want", "_law_names", "_law_fuel", "_law_op", "_law_one", "_law_inner", "_law_name_here"]
abbrev P_L_own : List Str := ["_law_deal_here", "_law_want", "_law_names", "_law_fuel"]
theorem sc_L_own : FnScope N_L_own P_L_own d_L_own.scope := ⟨rfl, rfl, rfl, by decide +kernel, rfl, by decide +kernel, by decide +kernel⟩

def DealQ (H : Hp) (d La : Addr) : Prop := ∃ i, DealP H d La i
theorem DealQ.same {H H' : Hp} {d La : Addr} (h : DealQ H d La) (e : Same H H') : DealQ H' d La := by
  obtain ⟨i, h⟩ := h
  exact ⟨i, h.same e⟩
theorem DealQ.tupK {H H' : Hp} {d La : Addr} (h : DealQ H d La) (m : DMv d La H H') : TupK H H' := by
  obtain ⟨i, h⟩ := h
  exact h.tupK m
theorem NamesB.mvQ {B : Nat} {H H' : Hp} {n d La : Addr} {kvs : List (Key × V)} {N : Nat} (h : NamesB B H n kvs N) (dp : DealQ H d La) (m : DMv d La H H') : NamesB B H' n kvs N := by
  obtain ⟨i, dp⟩ := dp
  exact h.mv dp m
theorem NamesB.same {B : Nat} {H H' : Hp} {n : Addr} {kvs : List (Key × V)} {N : Nat} (h : NamesB B H n kvs N) (e : Same H H') : NamesB B H' n kvs N :=
  ⟨e _ _ h.at_, h.len, fun q hq => by
    obtain ⟨x, k, h1, h2, h3⟩ := h.vals q hq
    exact ⟨x, k, h1, h2.keep (sameTupK e), h3⟩⟩
def spTerm (n : Nat) : Sp := fun vs H Q _ => ∃ (d La nd : Addr) (f N : Nat) (kw : Kn) (wv : V) (kvs : List (Key × V)), f < n ∧ f ≤ 12 ∧ vs = [.ref d, wv, .ref nd, .int ((f : Nat) : Int)] ∧ DealQ H d La ∧ kw.At H wv ∧ kw.dep + f ≤ 40 ∧ NamesD H nd kvs N ∧ N + 6 * f ≤ 150 ∧
  ∀ (v : V) (H' : Hp), Tm F0 H' (f + 1) v → DealQ H' d La → DMv d La H H' → Q v H'
def spOwn (n : Nat) : Sp := fun vs H Q _ => ∃ (d La nd : Addr) (f N : Nat) (kw : Kn) (wv : V) (kvs : List (Key × V)), f < n ∧ f ≤ 12 ∧ vs = [.ref d, wv, .ref nd, .int ((f : Nat) : Int)] ∧ DealQ H d La ∧ kw.At H wv ∧ kw.dep + f ≤ 40 ∧ NamesD H nd kvs N ∧ N + 6 * f ≤ 144 ∧
  ∀ (v : V) (H' : Hp), Tm F0 H' (f + 2) v → DealQ H' d La → DMv d La H H' → Q v H'
section
variable {P : Program} {w : World} {K : PySem.W.Frag} {mg : Str → Option Value} {base : Heap}
theorem at3s (a b c : Str) {r : Int} (h0 : 0 ≤ r) (h1 : r < 3) : ∃ u : Str, atI [V.str a, V.str b, V.str c] r = some (.str u) := by
  have h : r = 0 ∨ r = 1 ∨ r = 2 := by omega
  rcases h with h | h | h
  · exact ⟨a, by rw [h]; rfl⟩
  · exact ⟨b, by rw [h]; rfl⟩
  · exact ⟨c, by rw [h]; rfl⟩
theorem at2s (a b : Str) {r : Int} (h0 : 0 ≤ r) (h1 : r < 2) : ∃ u : Str, atI [V.str a, V.str b] r = some (.str u) := by
  have h : r = 0 ∨ r = 1 := by omega
  rcases h with h | h
  · exact ⟨a, by rw [h]; rfl⟩
  · exact ⟨b, by rw [h]; rfl⟩
theorem DealP.fresh {H : Hp} {d La : Addr} {i : Int} (h : DealP H d La i) {a : Addr} (ha : H a = none) : a ≠ d ∧ a ≠ La := by
  obtain ⟨b, s, m, l, h1, h2, _⟩ := h
  exact ⟨(fun z => by rw [z, h1] at ha; cases ha), (fun z => by rw [z, h2] at ha; cases ha)⟩
theorem DealQ.fresh {H : Hp} {d La : Addr} (h : DealQ H d La) {a : Addr} (ha : H a = none) : a ≠ d ∧ a ≠ La := by
  obtain ⟨i, h⟩ := h
  exact h.fresh ha
theorem ok_own (T : Top K mg) (n k : Nat) (hT : Keeps P w K mg base CX0 (k + 3) d_L_term P_L_term (spTerm n)) : Keeps P w K mg base CX0 (k + 4) d_L_own P_L_own (spOwn n) := by
  obtain ⟨fd, F, bd⟩ := T.f_L_own
  obtain ⟨_, G_L_draw⟩ := ok_draw (P := P) (w := w) (base := base) T
  obtain ⟨_, G_L_name⟩ := ok_name (P := P) (w := w) (base := base) T
  obtain ⟨_, G_L_term⟩ := hT
  refine keeps0 F bd sc_L_own (fun vs H Q E h => ?_) (fun cdv AA outer sh H vs Q E hr h => ?_)
  · obtain ⟨d, La, nd, f, N, kw, wv, kvs, _, _, rfl, _⟩ := h
    rfl
  obtain ⟨d, La, nd, f, N, kw, wv, kvs, hf, hf2, rfl, dq, hkw, hkd, hn, hN, q⟩ := h
  refine ⟨_, (pss_cons (ps_if (PW.pt (pw_or (pt_cmpR op_eq (pe_ix ix_tup (pv 1) pe_int (fun _ _ => rfl)) pe_str (nomark _)) (pw_or1 (pt_cmpR op_eq (pe_ix ix_tup (pv 1) pe_int (fun _ _ => rfl)) pe_str (nomark _)))))
    (pss_cons (ps_set (i := 4) sc_L_own.nd rfl (Or.inl rfl) (pe_ix ix_list (pe_lst (pa_cons pe_str (pa_cons pe_str (pa_cons pe_str pa_nil)))) (pe_call G_L_draw.ok (hr.mono (by omega)) rfl T.g_law_draw G_L_draw.kp G_L_draw.bd .nil pass0 (pa_cons (pv 0) (pa_cons pe_int pa_nil))) (fun _ _ => rfl)))
    (pss_cons (ps_if (pt_cmpR op_eq (pe_ix ix_tup (pv 1) pe_int (fun _ _ => rfl)) pe_str (nomark _))
    (pss_one (ps_set (i := 4) sc_L_own.nd rfl (Or.inl rfl) (pe_ix ix_list (pe_lst (pa_cons pe_str (pa_cons pe_str pa_nil))) (pe_call G_L_draw.ok (hr.mono (by omega)) rfl T.g_law_draw G_L_draw.kp G_L_draw.bd .nil pass0 (pa_cons (pv 0) (pa_cons pe_int pa_nil))) (fun _ _ => rfl))))
    pss_nil)
    (pss_cons (ps_set (i := 5) sc_L_own.nd rfl (Or.inl rfl) (pe_call G_L_term.ok (hr.mono (by omega)) rfl T.g_law_term G_L_term.kp G_L_term.bd .nil pass0 (pa_cons (pv 0) (pa_cons (pe_tup (pa_cons pe_str pa_nil)) (pa_cons (pv 2) (pa_cons (pv 3) pa_nil))))))
    (pss_one (ps_ret (pe_tup (pa_cons pe_str (pa_cons (pv 4) (pa_cons (pv 5) (pa_cons (pe_call G_L_term.ok (hr.mono (by omega)) rfl T.g_law_term G_L_term.kp G_L_term.bd .nil pass0 (pa_cons (pv 0) (pa_cons (pe_tup (pa_cons pe_str pa_nil)) (pa_cons (pv 2) (pa_cons (pv 3) pa_nil))))) pa_nil))))))))))
    pss_nil)
    (pss_cons (ps_if (pt_cmpR op_eq (pe_ix ix_tup (pv 1) pe_int (fun _ _ => rfl)) pe_str (nomark _))
    (pss_cons (ps_set (i := 6) sc_L_own.nd rfl (Or.inl rfl) (pe_callTy call_dictD (by rfl) T.z_dict (by decide +kernel) (pa_cons (pv 2) pa_nil)))
    (pss_cons (ps_set (i := 7) sc_L_own.nd rfl (Or.inl rfl) (pe_call G_L_name.ok (hr.mono (by omega)) rfl T.g_law_name G_L_name.kp G_L_name.bd .nil pass0 (pa_cons (pv 0) pa_nil)))
    (pss_cons (ps_dput (hu_of hr) (pv 6) (pv 7) (pe_ix ix_tup (pv 1) pe_int (fun _ _ => rfl)) rfl)
    (pss_one (ps_ret (pe_tup (pa_cons pe_str (pa_cons (pv 7) (pa_cons (pe_call G_L_term.ok (hr.mono (by omega)) rfl T.g_law_term G_L_term.kp G_L_term.bd .nil pass0 (pa_cons (pv 0) (pa_cons (pe_ix ix_tup (pv 1) pe_int (fun _ _ => rfl)) (pa_cons (pv 6) (pa_cons (pv 3) pa_nil))))) pa_nil)))))))))
    pss_nil)
    (pss_cons (ps_set (i := 5) sc_L_own.nd rfl (Or.inl rfl) (pe_call G_L_term.ok (hr.mono (by omega)) rfl T.g_law_term G_L_term.kp G_L_term.bd .nil pass0 (pa_cons (pv 0) (pa_cons (pe_ix ix_tup (pv 1) pe_int (fun _ _ => rfl)) (pa_cons (pv 2) (pa_cons (pv 3) pa_nil))))))
    (pss_cons (ps_if (pt_cmpR op_eq (pe_ix ix_tup (pv 1) pe_int (fun _ _ => rfl)) pe_str (nomark _))
    (pss_one (ps_ret (pe_tup (pa_cons pe_str (pa_cons pe_str (pa_cons (pe_tup (pa_cons (pv 5) (pa_cons (pe_call G_L_term.ok (hr.mono (by omega)) rfl T.g_law_term G_L_term.kp G_L_term.bd .nil pass0 (pa_cons (pv 0) (pa_cons (pv 1) (pa_cons (pv 2) (pa_cons (pv 3) pa_nil))))) pa_nil))) pa_nil))))))
    pss_nil)
    (pss_one (ps_ret (pe_tup (pa_cons pe_str (pa_cons pe_str (pa_cons (pe_tup (pa_cons (pv 5) (pa_cons (pe_call G_L_term.ok (hr.mono (by omega)) rfl T.g_law_term G_L_term.kp G_L_term.bd .nil pass0 (pa_cons (pv 0) (pa_cons (pe_ix ix_tup (pv 1) pe_int (fun _ _ => rfl)) (pa_cons (pv 2) (pa_cons (pv 3) pa_nil))))) pa_nil))) pa_nil)))))))))), ?_⟩
  cases kw with
  | num =>
    obtain ⟨a, rfl, ha⟩ := hkw
    refine ⟨_, rfl, a, _, _, _, rfl, rfl, SqT.of ha, rfl, rfl, _, rfl, ifT (by decide +kernel) ?_⟩
    refine ⟨small50 (by simp), fun l1 hl1 => ?_⟩
    have f1 := same_new (o := .lst [.str "+", .str "-", .str "*"]) hl1
    obtain ⟨i, dp⟩ := id dq
    have d1 := dp.same f1
    have nl := dp.fresh hl1
    refine ⟨_, rfl, d, La, i, 3, rfl, d1, by decide, by decide, fun r1 H1 r10 r11 d2 m2 => ?_⟩
    obtain ⟨op, hop⟩ := at3s "+" "-" "*" r10 r11
    refine ⟨l1, _, _, _, rfl, rfl, SqL.of (m2 _ _ upd_same nl.1 nl.2), hop, ?_⟩
    have m02 := (DMv.same f1).trans m2
    have ha2 := (dp.tupK m02) _ _ ha
    refine ⟨_, rfl, a, _, _, _, rfl, rfl, SqT.of ha2, rfl, rfl, _, rfl, ifF (by decide +kernel) ?_⟩
    have dc : DealQ H1 d La := ⟨i, d2⟩
    have mc := m02
    have nc := hn.mvQ dq mc
    refine ⟨_, rfl, small50 (by simp), fun t1 ht1 => ⟨_, rfl, _, rfl, ?_⟩⟩
    have e1 := same_new (o := .tup [.str "num"]) ht1
    refine ⟨d, La, nd, f, N, .num, .ref t1, kvs, hf, hf2, rfl, dc.same e1, ⟨t1, rfl, upd_same⟩, by show 1 + f ≤ 40; omega, nc.same e1, by omega, fun v1 H2 t2 d2 m2 => ?_⟩
    refine ⟨_, rfl, _, rfl, _, rfl, small50 (by simp), fun t3 ht3 => ⟨_, rfl, _, rfl, ?_⟩⟩
    have e3 := same_new (o := .tup [.str "num"]) ht3
    refine ⟨d, La, nd, f, N, .num, .ref t3, kvs, hf, hf2, rfl, d2.same e3, ⟨t3, rfl, upd_same⟩, by show 1 + f ≤ 40; omega, ((nc.same e1).mvQ (dc.same e1) m2).same e3, by omega, fun v2 H4 t4 d4 m4 => ?_⟩
    refine ⟨small50 (by simp), fun r hr' => ?_⟩
    have e5 := same_new (o := .tup [.str "does", .str op, v1, v2]) hr'
    exact q _ _ ⟨r, _, rfl, upd_same, .does op _ _ (((tm_same t2 e3).keep ((d2.same e3).tupK m4)).keep (sameTupK e5)) (tm_same t4 e5)⟩ (d4.same e5) (mc.trans ((DMv.same e1).trans (m2.trans ((DMv.same e3).trans (m4.trans (DMv.same e5))))))
  | truth =>
    obtain ⟨a, rfl, ha⟩ := hkw
    refine ⟨_, rfl, a, _, _, _, rfl, rfl, SqT.of ha, rfl, rfl, _, rfl, ifF (by decide +kernel) ?_⟩
    refine ⟨_, rfl, a, _, _, _, rfl, rfl, SqT.of ha, rfl, rfl, _, rfl, ifT (by decide +kernel) ?_⟩
    refine ⟨small50 (by simp), fun l1 hl1 => ?_⟩
    have f1 := same_new (o := .lst [.str "+", .str "-", .str "*"]) hl1
    obtain ⟨i, dp⟩ := id dq
    have d1 := dp.same f1
    have nl := dp.fresh hl1
    refine ⟨_, rfl, d, La, i, 3, rfl, d1, by decide, by decide, fun r1 H1 r10 r11 d2 m2 => ?_⟩
    obtain ⟨op, hop⟩ := at3s "+" "-" "*" r10 r11
    refine ⟨l1, _, _, _, rfl, rfl, SqL.of (m2 _ _ upd_same nl.1 nl.2), hop, ?_⟩
    have m02 := (DMv.same f1).trans m2
    have ha2 := (dp.tupK m02) _ _ ha
    refine ⟨_, rfl, a, _, _, _, rfl, rfl, SqT.of ha2, rfl, rfl, _, rfl, ifT (by decide +kernel) ?_⟩
    refine ⟨small50 (by simp), fun l2 hl2 => ?_⟩
    have f2 := same_new (o := .lst [.str "<", .str "="]) hl2
    have nl2 := d2.fresh hl2
    refine ⟨_, rfl, d, La, i, 2, rfl, d2.same f2, by decide, by decide, fun r3 H3 r30 r31 d3 m3 => ?_⟩
    obtain ⟨op, hop⟩ := at2s "<" "=" r30 r31
    refine ⟨l2, _, _, _, rfl, rfl, SqL.of (m3 _ _ upd_same nl2.1 nl2.2), hop, ?_⟩
    have dc : DealQ H3 d La := ⟨i, d3⟩
    have mc := m02.trans ((DMv.same f2).trans m3)
    have nc := hn.mvQ dq mc
    refine ⟨_, rfl, small50 (by simp), fun t1 ht1 => ⟨_, rfl, _, rfl, ?_⟩⟩
    have e1 := same_new (o := .tup [.str "num"]) ht1
    refine ⟨d, La, nd, f, N, .num, .ref t1, kvs, hf, hf2, rfl, dc.same e1, ⟨t1, rfl, upd_same⟩, by show 1 + f ≤ 40; omega, nc.same e1, by omega, fun v1 H2 t2 d2 m2 => ?_⟩
    refine ⟨_, rfl, _, rfl, _, rfl, small50 (by simp), fun t3 ht3 => ⟨_, rfl, _, rfl, ?_⟩⟩
    have e3 := same_new (o := .tup [.str "num"]) ht3
    refine ⟨d, La, nd, f, N, .num, .ref t3, kvs, hf, hf2, rfl, d2.same e3, ⟨t3, rfl, upd_same⟩, by show 1 + f ≤ 40; omega, ((nc.same e1).mvQ (dc.same e1) m2).same e3, by omega, fun v2 H4 t4 d4 m4 => ?_⟩
    refine ⟨small50 (by simp), fun r hr' => ?_⟩
    have e5 := same_new (o := .tup [.str "does", .str op, v1, v2]) hr'
    exact q _ _ ⟨r, _, rfl, upd_same, .does op _ _ (((tm_same t2 e3).keep ((d2.same e3).tupK m4)).keep (sameTupK e5)) (tm_same t4 e5)⟩ (d4.same e5) (mc.trans ((DMv.same e1).trans (m2.trans ((DMv.same e3).trans (m4.trans (DMv.same e5))))))
  | to k1 k2 =>
    obtain ⟨a, x, y, rfl, ha, hx, hy⟩ := hkw
    have hkd' : max k1.dep k2.dep + 1 + f ≤ 40 := hkd
    refine ⟨_, rfl, a, _, _, _, rfl, rfl, SqT.of ha, rfl, rfl, _, rfl, ifF (by decide +kernel) ?_⟩
    refine ⟨_, rfl, a, _, _, _, rfl, rfl, SqT.of ha, rfl, rfl, _, rfl, ifF (by decide +kernel) ?_⟩
    refine ⟨_, rfl, a, _, _, _, rfl, rfl, SqT.of ha, rfl, rfl, _, rfl, ifT (by decide +kernel) ?_⟩
    refine ⟨_, rfl, nd, kvs, rfl, .inl hn.at_, fun n2 hn2 => ?_⟩
    have e1 := same_new (o := .dK kvs) hn2
    obtain ⟨i, dp⟩ := id dq
    have nl := dp.fresh hn2
    refine ⟨_, rfl, d, La, i, rfl, dp.same e1, fun nm H2 _ d2 m2 => ?_⟩
    have t12 := dp.tupK ((DMv.same e1).trans m2)
    have gn2 := m2 _ _ upd_same nl.1 nl.2
    have kl := hn.len
    refine ⟨_, rfl, a, _, _, _, rfl, rfl, SqT.of (t12 _ _ ha), rfl, _, rfl, _, rfl, n2, _, rfl, DPut.k (k := .inr nm) gn2 (small9 (by omega)), ?_⟩
    have st := sty_off (o := .dK (putK kvs (.inr nm) x)) (.inr ⟨_, gn2⟩)
    have m3 : DMv d La H (upd H2 n2 (.dK (putK kvs (.inr nm) x))) := fun b o e n1 n3 => by
      rw [upd_ne (ne_of_none e hn2)]
      exact ((DMv.same e1).trans m2) b o e n1 n3
    have d3 : DealQ (upd H2 n2 (.dK (putK kvs (.inr nm) x))) d La := by
      obtain ⟨b, s, m, l, g1, g2, g3⟩ := d2
      exact ⟨i, b, s, m, l, by rw [upd_ne nl.1.symm]; exact g1, by rw [upd_ne nl.2.symm]; exact g2, g3⟩
    have t3 := dp.tupK m3
    have nd3 : NamesD (upd H2 n2 (.dK (putK kvs (.inr nm) x))) n2 (putK kvs (.inr nm) x) (N + 1) := ⟨upd_same, Nat.le_trans (putK_len _ _ _) (by omega), fun z hz => by
      rcases putK_mem hz with h | ⟨h1, h2⟩
      · obtain ⟨x', k', h1, h2, h3⟩ := hn.vals z h
        exact ⟨x', k', h1, h2.keep t3, h3⟩
      · exact ⟨nm, k1, h1, by rw [h2]; exact hx.keep t3, by omega⟩⟩
    refine ⟨_, rfl, ⟨_, rfl, _, rfl, a, _, _, _, rfl, rfl, SqT.of (t3 _ _ ha), rfl, _, rfl, _, rfl, ?_⟩⟩
    refine ⟨d, La, n2, f, N + 1, k2, y, _, hf, hf2, rfl, d3, hy.keep t3, by omega, nd3, by omega, fun v H4 t4 d4 m4 => ⟨small50 (by simp), fun r hr' => ?_⟩⟩
    have e5 := same_new (o := .tup [.str "fun", .str nm, v]) hr'
    exact q _ _ ⟨r, _, rfl, upd_same, .fun_ nm _ (tm_same t4 e5)⟩ (d4.same e5) (m3.trans (m4.trans (DMv.same e5)))
  | list k1 =>
    obtain ⟨a, x, rfl, ha, hx⟩ := hkw
    have hkd' : k1.dep + 1 + f ≤ 40 := hkd
    have hkd2 := hkd'
    refine ⟨_, rfl, a, _, _, _, rfl, rfl, SqT.of ha, rfl, rfl, _, rfl, ifF (by decide +kernel) ?_⟩
    refine ⟨_, rfl, a, _, _, _, rfl, rfl, SqT.of ha, rfl, rfl, _, rfl, ifF (by decide +kernel) ?_⟩
    refine ⟨_, rfl, a, _, _, _, rfl, rfl, SqT.of ha, rfl, rfl, _, rfl, ifF (by decide +kernel) ?_⟩
    refine ⟨_, rfl, _, rfl, a, _, _, _, rfl, rfl, SqT.of ha, rfl, _, rfl, _, rfl, ?_⟩
    refine ⟨d, La, nd, f, N, k1, x, kvs, hf, hf2, rfl, dq, hx, by omega, hn, by omega, fun v1 H2 t2 d2 m2 => ?_⟩
    have tk := dq.tupK m2
    have ha2 := tk _ _ ha
    have hn2 := hn.mvQ dq m2
    refine ⟨_, rfl, a, _, _, _, rfl, rfl, SqT.of ha2, rfl, rfl, _, rfl, ifT (by decide +kernel) ?_⟩
    refine ⟨_, rfl, ⟨_, rfl, _, rfl, _, rfl, _, rfl, ?_⟩⟩
    refine ⟨d, La, nd, f, N, .list k1, .ref a, kvs, hf, hf2, rfl, d2, ⟨a, x, rfl, ha2, hx.keep tk⟩, hkd, hn2, by omega, fun v2 H4 t4 d4 m4 => ?_⟩
    refine ⟨small50 (by simp), fun u hu => ⟨small50 (by simp), fun r hr' => ?_⟩⟩
    have e1 := same_new (o := .tup [v1, v2]) hu
    have e2 := same_new (o := .tup [.str "shape", .str "Cons", .ref u]) hr'
    have e12 := e1.trans e2
    refine q _ _ ⟨r, _, rfl, upd_same, .shape _ u [v1, v2] (e2 _ _ upd_same) (by simp) (fun z hz => ?_) (by decide +kernel)⟩ (d4.same e12) (m2.trans (m4.trans (DMv.same e12)))
    simp only [List.mem_cons, List.not_mem_nil, or_false] at hz
    rcases hz with rfl | rfl
    · exact (t2.keep (d2.tupK m4)).keep (sameTupK e12)
    · exact tm_same t4 e12
  | pair k1 k2 =>
    obtain ⟨a, x, y, rfl, ha, hx, hy⟩ := hkw
    have hkd' : max k1.dep k2.dep + 1 + f ≤ 40 := hkd
    have hkd2 := hkd'
    refine ⟨_, rfl, a, _, _, _, rfl, rfl, SqT.of ha, rfl, rfl, _, rfl, ifF (by decide +kernel) ?_⟩
    refine ⟨_, rfl, a, _, _, _, rfl, rfl, SqT.of ha, rfl, rfl, _, rfl, ifF (by decide +kernel) ?_⟩
    refine ⟨_, rfl, a, _, _, _, rfl, rfl, SqT.of ha, rfl, rfl, _, rfl, ifF (by decide +kernel) ?_⟩
    refine ⟨_, rfl, _, rfl, a, _, _, _, rfl, rfl, SqT.of ha, rfl, _, rfl, _, rfl, ?_⟩
    refine ⟨d, La, nd, f, N, k1, x, kvs, hf, hf2, rfl, dq, hx, by omega, hn, by omega, fun v1 H2 t2 d2 m2 => ?_⟩
    have tk := dq.tupK m2
    have ha2 := tk _ _ ha
    have hn2 := hn.mvQ dq m2
    refine ⟨_, rfl, a, _, _, _, rfl, rfl, SqT.of ha2, rfl, rfl, _, rfl, ifF (by decide +kernel) ?_⟩
    refine ⟨_, rfl, ⟨_, rfl, _, rfl, a, _, _, _, rfl, rfl, SqT.of ha2, rfl, _, rfl, _, rfl, ?_⟩⟩
    refine ⟨d, La, nd, f, N, k2, y, kvs, hf, hf2, rfl, d2, hy.keep tk, by omega, hn2, by omega, fun v2 H4 t4 d4 m4 => ?_⟩
    refine ⟨small50 (by simp), fun u hu => ⟨small50 (by simp), fun r hr' => ?_⟩⟩
    have e1 := same_new (o := .tup [v1, v2]) hu
    have e2 := same_new (o := .tup [.str "shape", .str "Pair", .ref u]) hr'
    have e12 := e1.trans e2
    refine q _ _ ⟨r, _, rfl, upd_same, .shape _ u [v1, v2] (e2 _ _ upd_same) (by simp) (fun z hz => ?_) (by decide +kernel)⟩ (d4.same e12) (m2.trans (m4.trans (DMv.same e12)))
    simp only [List.mem_cons, List.not_mem_nil, or_false] at hz
    rcases hz with rfl | rfl
    · exact (t2.keep (d2.tupK m4)).keep (sameTupK e12)
    · exact tm_same t4 e12
end
end W83

namespace W83
open PySem PySem.Spec PyProof.Rows L2
abbrev N_L_let : List Str := ["_law_deal_here", "_law_want", "_law_names", "_law_fuel", "_law_bound", "_law_k", "_law_name_here", "_law_inner", "_law_pairs", "_law_kind_here"]
abbrev P_L_let : List Str := ["_law_deal_here", "_law_want", "_law_names", "_law_fuel"]
theorem sc_L_let : FnScope N_L_let P_L_let d_L_let.scope := ⟨rfl, rfl, rfl, by decide +kernel, rfl, by decide +kernel, by decide +kernel⟩

section
variable {P : Program} {w : World} {K : PySem.W.Frag} {mg : Str → Option Value} {base : Heap}
theorem dmv_grow {d La : Addr} {H G : Hp} (m : DMv d La H G) {a : Addr} {o : HO} (h : H a = none) : DMv d La H (upd G a o) := fun c u e n1 n2 => by
  rw [upd_ne (ne_of_none e h)]
  exact m c u e n1 n2
theorem DealQ.off {G : Hp} {d La a : Addr} {o : HO} (h : DealQ G d La) (n : a ≠ d ∧ a ≠ La) : DealQ (upd G a o) d La := by
  obtain ⟨i, b, s, m, l, h1, h2, h3⟩ := h
  exact ⟨i, b, s, m, l, by rw [upd_ne n.1.symm]; exact h1, by rw [upd_ne n.2.symm]; exact h2, h3⟩
theorem ok_let (T : Top K mg) (n k : Nat) (hk : 5 ≤ k) (hT : Keeps P w K mg base CX0 (k + 3) d_L_term P_L_term (spTerm n)) : Keeps P w K mg base CX0 (k + 4) d_L_let P_L_let (spOwn n) := by
  obtain ⟨fd, F, bd⟩ := T.f_L_let
  obtain ⟨_, G_L_draw⟩ := ok_draw (P := P) (w := w) (base := base) T
  obtain ⟨_, G_L_name⟩ := ok_name (P := P) (w := w) (base := base) T
  obtain ⟨_, G_L_kind⟩ := ok_kind (P := P) (w := w) (base := base) T 5
  obtain ⟨_, G_L_term⟩ := hT
  refine keeps0 F bd sc_L_let (fun vs H Q E h => ?_) (fun cdv AA outer sh H vs Q E hr h => ?_)
  · obtain ⟨d, La, nd, f, N, kw, wv, kvs, _, _, rfl, _⟩ := h
    rfl
  obtain ⟨d, La, nd, f, N, kw, wv, kvs, hf, hf2, rfl, dq, hkw, hkd, hn, hN, q⟩ := h
  refine ⟨_, (pss_cons (ps_set (i := 4) sc_L_let.nd rfl (Or.inl rfl) pe_dnewK)
    (pss_cons (ps_for PassesOwn.never rfl (pi_range1 rfl T.z_range (pa_cons (pe_op op_add pe_int (pe_call G_L_draw.ok (hr.mono (by omega)) rfl T.g_law_draw G_L_draw.kp G_L_draw.bd .nil pass0 (pa_cons (pv 0) (pa_cons pe_int pa_nil)))) pa_nil)) (pg_name (i := 5) sc_L_let.nd rfl (Or.inl rfl))
    (pss_cons (ps_set (i := 6) sc_L_let.nd rfl (Or.inl rfl) (pe_call G_L_name.ok (hr.mono (by omega)) rfl T.g_law_name G_L_name.kp G_L_name.bd .nil pass0 (pa_cons (pv 0) pa_nil)))
    (pss_one (ps_dput (hu_of hr) (pv 4) (pv 6) (pe_call G_L_kind.ok (hr.mono (by omega)) rfl T.g_law_kind G_L_kind.kp G_L_kind.bd .nil pass0 (pa_cons (pv 0) (pa_cons pe_int pa_nil))) rfl))))
    (pss_cons (ps_set (i := 7) sc_L_let.nd rfl (Or.inl rfl) (pe_callTy call_dictD (by rfl) T.z_dict (by decide +kernel) (pa_cons (pv 2) pa_nil)))
    (pss_cons (ps_expr (pe_bm PySem.F.plainAttrs_dict PySem.F.slot_dict_update PySem.F.type_dict_update mt_update (pv 7) (pa_cons (pv 4) pa_nil)))
    (pss_cons (ps_set (i := 8) sc_L_let.nd rfl (Or.inl rfl) (pe_lst pa_nil))
    (pss_cons (ps_lock (ps_for PassesOwn.never rfl (pi_items (pv 4)) (pg_tup rfl (pgs_cons (pg_name (i := 6) sc_L_let.nd rfl (Or.inl rfl)) (pgs_cons (pg_name (i := 9) sc_L_let.nd rfl (Or.inl rfl)) pgs_nil)))
    (pss_one (ps_expr (pe_bm PySem.F.plainAttrs_list PySem.F.slot_list_append PySem.F.type_list_append mt_append (pv 8) (pa_cons (pe_tup (pa_cons (pv 6) (pa_cons (pe_call G_L_term.ok (hr.mono (by omega)) rfl T.g_law_term G_L_term.kp G_L_term.bd .nil pass0 (pa_cons (pv 0) (pa_cons (pv 9) (pa_cons (pv 7) (pa_cons (pv 3) pa_nil))))) pa_nil))) pa_nil))))))
    (pss_one (ps_ret (pe_tup (pa_cons pe_str (pa_cons (pe_callTy call_tuple_of (by rfl) T.z_tuple (by decide +kernel) (pa_cons (pv 8) pa_nil)) (pa_cons (pe_call G_L_term.ok (hr.mono (by omega)) rfl T.g_law_term G_L_term.kp G_L_term.bd .nil pass0 (pa_cons (pv 0) (pa_cons (pv 1) (pa_cons (pv 7) (pa_cons (pv 3) pa_nil))))) pa_nil)))))))))))), ?_⟩
  intro bd hbd
  have e1 := same_new (o := .dK []) hbd
  have nb := dq.fresh hbd
  obtain ⟨i, dp⟩ := id dq
  refine ⟨_, rfl, d, La, i, 5, rfl, dp.same e1, by decide, by decide, fun r H1 r0 r1 d1 m1 => ⟨_, _, rfl, rfl, _, rfl, by omega, by omega, for_range (n := ((1 : Int) + r).toNat)
    (fun j σ G => ∃ v5 v6, σ = [some (.ref d), some wv, some (.ref nd), some (.int ((f : Nat) : Int)), some (.ref bd), v5, v6, none, none, none] ∧ DealQ G d La ∧ DMv d La H G ∧ ∃ kvb, NamesB 5 G bd kvb j)
    ⟨_, _, rfl, ⟨i, d1⟩, (DMv.same e1).trans m1, [], m1 _ _ upd_same nb.1 nb.2, Nat.le_refl _, fun z hz => by cases hz⟩ ?_ ?_⟩⟩
  · rintro j σ G hj ⟨v5, v6, rfl, dG, mG, kvb, nG⟩
    obtain ⟨i2, dp2⟩ := id dG
    refine ⟨_, rfl, d, La, i2, rfl, dp2, fun nm H2 _ d2 m2 => ?_⟩
    refine ⟨_, rfl, d, La, i2, 4, by decide, rfl, d2, fun k3 v3 H3 hk3 ha3 d3 m3 => ?_⟩
    have n3 := (nG.mv dp2 m2).mv d2 m3
    have nlen := n3.len
    refine ⟨_, rfl, _, rfl, bd, _, rfl, DPut.k (k := .inr nm) n3.at_ (small9 (by omega)), ?_⟩
    have st := sty_off (o := .dK (putK kvb (.inr nm) v3)) (.inr ⟨_, n3.at_⟩)
    refine ⟨_, _, rfl, (show DealQ H3 d La from ⟨i2, d3⟩).off nb, dmv_grow (mG.trans (m2.trans m3)) hbd, putK kvb (.inr nm) v3, upd_same, Nat.le_trans (putK_len _ _ _) (by omega), fun z hz => ?_⟩
    rcases putK_mem hz with h | ⟨h1, h2⟩
    · obtain ⟨x', k', h1, h2, h3⟩ := n3.vals z h
      exact ⟨x', k', h1, h2.keep st.1, h3⟩
    · exact ⟨nm, k3, h1, by rw [h2]; exact ha3.keep st.1, by omega⟩
  rintro σ G ⟨v5, v6, rfl, dG, mG, kvb, nG⟩
  have hlb : kvb.length ≤ 5 := by have := nG.len; omega
  have tG := dq.tupK mG
  have hnG := hn.mvQ dq mG
  -- inner
  refine ⟨_, rfl, nd, kvs, rfl, .inl hnG.at_, fun n2 hn2 => ?_⟩
  have e2 := same_new (o := .dK kvs) hn2
  have hl := hn.len
  have nn2 : n2 ≠ bd := fun z => by rw [z, nG.at_] at hn2; cases hn2
  have nn3 := dG.fresh hn2
  have nlen := nG.len
  refine ⟨_, rfl, .inr (.inr (.inl ⟨rfl, .inl ⟨_, upd_same⟩⟩)), _, rfl, n2, bd, kvs, kvb, rfl, rfl, nn2, upd_same, e2 _ _ nG.at_, by rw [sizeLine_eq]; omega, ?_⟩
  obtain ⟨H6, hH6⟩ : ∃ H6, H6 = upd (upd G n2 (.dK kvs)) n2 (.dK (mergeK kvs kvb)) := ⟨_, rfl⟩
  have sG6 : Same G H6 := fun b o e => by
    rw [hH6, upd_ne (ne_of_none e hn2)]
    exact e2 _ _ e
  have g62 : H6 n2 = some (.dK (mergeK kvs kvb)) := by rw [hH6]; exact upd_same
  rw [← hH6]
  have d6 := dG.same sG6
  have n6 : NamesD H6 n2 (mergeK kvs kvb) (N + 5) := ⟨g62, by have := length_mergeK kvb kvs; have := hnG.len; omega, fun z hz => by
    rcases mergeK_mem hz with h | ⟨y, hy, h1, h2⟩
    · obtain ⟨x', k', h1, h2, h3⟩ := hnG.vals z h
      exact ⟨x', k', h1, h2.keep (sameTupK sG6), h3⟩
    · obtain ⟨x', k', h3, h4, h5⟩ := nG.vals y hy
      exact ⟨x', k', by rw [← h2]; exact h3, by rw [← h1]; exact h4.keep (sameTupK sG6), by omega⟩⟩
  have b6 := nG.same sG6
  have w6 := (hkw.keep tG).keep (sameTupK sG6)
  have m6 := mG.trans (DMv.same sG6)
  refine ⟨small50 (by simp), fun Lp hLp => ?_⟩
  have e7 := same_new (o := .lst []) hLp
  have nL := d6.fresh hLp
  have nLb : Lp ≠ bd := fun z => by rw [z, b6.at_] at hLp; cases hLp
  refine ⟨bd, .dK kvb, e7 _ _ b6.at_, trivial, fun od => ?_⟩
  refine ⟨_, rfl, bd, od, kvb, rfl, upd_same, for_it walk_items (fun i σ G' => ∃ v5 v6 v9, σ = [some (.ref d), some wv, some (.ref nd), some (.int ((f : Nat) : Int)), some (.ref bd), v5, v6, some (.ref n2), some (.ref Lp), v9] ∧ G' bd = some (.frz od (.dK kvb)) ∧
      (∀ b o, H6 b = some o → b ≠ bd → b ≠ d → b ≠ La → G' b = some o) ∧ DealQ G' d La ∧ ∃ acc, G' Lp = some (.lst acc) ∧ acc.length = i ∧ ∀ v ∈ acc, Prr G' (Tm F0 G' (f + 1)) v)
    ⟨_, _, _, rfl, upd_same, fun b o e h1 h2 h3 => by rw [upd_ne h1]; exact e7 _ _ e, (d6.same e7).off nb.symm.symm, [], by rw [upd_ne nLb, upd_same], rfl, fun v hv => by cases hv⟩ (fun i σ G' _ h => ?_) ?_ ?_⟩
  · obtain ⟨_, _, _, _, h, _⟩ := h
    exact h
  · rintro i v σ G' G'' hi ⟨v5, v6, v9, rfl, g1, g2, dG', acc, gL, la, hacc⟩ ⟨t, x, y, rfl, ht, rfl, hx, hy⟩
    have hkv : kvb[i]? = some kvb[i] := List.getElem?_eq_getElem hi
    dsimp only at hx hy
    rw [hkv] at hx hy
    cases hx
    cases hy
    obtain ⟨nm, kk, ex, hkk, hkkd⟩ := b6.vals kvb[i] (List.getElem_mem hi)
    have hk5 : kk.dep + f ≤ 40 := by omega
    obtain ⟨G2, hG2⟩ : ∃ G2, G2 = upd G' t (.tup [kV kvb[i].1, kvb[i].2]) := ⟨_, rfl⟩
    have s2 : Same G' G2 := by rw [hG2]; exact same_new ht
    have gt : G2 t = some (.tup [kV kvb[i].1, kvb[i].2]) := by rw [hG2]; exact upd_same
    rw [← hG2]
    have d2 := dG'.same s2
    have tk : TupK H6 G2 := fun c xs hc => s2 _ _ (g2 c _ hc (fun z => by rw [z, b6.at_] at hc; cases hc) (fun z => by
      obtain ⟨_, _, _, _, _, h1, _⟩ := d6
      rw [z, h1] at hc; cases hc) (fun z => by
      obtain ⟨_, _, _, _, _, _, h1, _⟩ := d6
      rw [z, h1] at hc; cases hc))
    have nn : NamesD G2 n2 (mergeK kvs kvb) (N + 5) := ⟨s2 _ _ (g2 _ _ g62 nn2 nn3.1 nn3.2), n6.len, fun z hz => by
      obtain ⟨x', k', h1, h2, h3⟩ := n6.vals z hz
      exact ⟨x', k', h1, h2.keep tk, h3⟩⟩
    refine ⟨t, _, rfl, SqT.of gt, rfl, _, _, rfl, _, _, rfl, rfl, ?_⟩
    refine ⟨_, rfl, .inl ⟨rfl, _, SqL.of (s2 _ _ gL)⟩, _, rfl, _, rfl, _, rfl, _, rfl, _, rfl, ?_⟩
    refine ⟨d, La, n2, f, N + 5, kk, _, _, hf, hf2, rfl, d2, hkk.keep tk, hk5, nn, by omega, fun v3 H3 t3 d3 m3 => ⟨small50 (by simp), fun u hu => ?_⟩⟩
    have e4 := same_new (o := .tup [kV kvb[i].1, v3]) hu
    have gL3 := e4 _ _ (m3 _ _ (s2 _ _ gL) nL.1 nL.2)
    refine ⟨Lp, _, _, rfl, rfl, gL3, small9 (by omega), ?_⟩
    have st := sty_off (o := .lst (acc ++ [.ref u])) (.inl ⟨_, gL3⟩)
    refine ⟨_, _, _, rfl, ?_, fun b o e h1 h2 h3 => ?_, (d3.same e4).off nL, acc ++ [.ref u], upd_same, by rw [List.length_append, la]; rfl, fun z hz => ?_⟩
    · rw [upd_ne nLb.symm]
      exact e4 _ _ (m3 _ _ (s2 _ _ g1) nb.1 nb.2)
    · rw [upd_ne (ne_of_none e hLp)]
      exact e4 _ _ (m3 _ _ (s2 _ _ (g2 b o e h1 h2 h3)) h2 h3)
    · rcases List.mem_append.mp hz with h | h
      · exact prr_keep (prr_same (prr_keep (prr_same (hacc z h) s2) (d2.tupK m3)) e4) st.1
      · rw [List.mem_singleton.mp h]
        exact ⟨u, nm, v3, rfl, st.1 _ _ (by rw [upd_same, ex]; rfl), (tm_same t3 e4).keep st.1⟩
  rintro σ G' ⟨v5, v6, v9, rfl, g1, g2, dG', acc, gL, la, hacc⟩
  refine ⟨g1, ?_⟩
  obtain ⟨G3, hG3⟩ : ∃ G3, G3 = upd G' bd (.dK kvb) := ⟨_, rfl⟩
  have st := (show TupK G' (upd G' bd (.dK kvb)) from tupK_upd g1 (fun xs z => by cases z))
  have g33 : ∀ b o, H6 b = some o → b ≠ d → b ≠ La → G3 b = some o := fun b o e h2 h3 => by
    rw [hG3]
    by_cases c : b = bd
    · rw [c, b6.at_] at e
      rw [c, upd_same]
      exact e
    · rw [upd_ne c]
      exact g2 b o e c h2 h3
  have m63 : DMv d La H6 G3 := g33
  have d3 : DealQ G3 d La := by rw [hG3]; exact dG'.off nb
  have gL3 : G3 Lp = some (.lst acc) := by rw [hG3, upd_ne nLb]; exact gL
  have hacc3 : ∀ v ∈ acc, Prr G3 (Tm F0 G3 (f + 1)) v := fun v hv => by rw [hG3]; exact prr_keep (hacc v hv) st
  have nn : NamesD G3 n2 (mergeK kvs kvb) (N + 5) := n6.mvQ d6 m63
  have w3 := w6.keep (d6.tupK m63)
  rw [← hG3]
  refine ⟨_, rfl, Lp, acc, rfl, .inl ⟨SqL.of gL3, fun ta hta => ?_⟩⟩
  have e4 := same_new (o := .tup acc) hta
  refine ⟨_, rfl, _, rfl, _, rfl, _, rfl, ?_⟩
  refine ⟨d, La, n2, f, N + 5, kw, wv, _, hf, hf2, rfl, d3.same e4, w3.keep (sameTupK e4), hkd, nn.same e4, by omega, fun v H7 t7 d7 m7 => ⟨small50 (by simp), fun u hu => ?_⟩⟩
  have e8 := same_new (o := .tup [.str "let", .ref ta, v]) hu
  have k7 := (d3.same e4).tupK m7
  exact q _ _ ⟨u, _, rfl, upd_same, .let_ ta acc v (e8 _ _ (k7 _ _ upd_same)) (by omega) (fun z hz => prr_same (prr_keep (prr_same (hacc3 z hz) e4) k7) e8) (tm_same t7 e8)⟩ (d7.same e8) (m6.trans (m63.trans ((DMv.same e4).trans (m7.trans (DMv.same e8)))))
end
end W83

namespace W83
open PySem PySem.Spec PyProof.Rows L2
abbrev N_L_choose : List Str := ["_law_deal_here", "_law_way", "_law_want", "_law_names", "_law_fuel", "_law_asked", "_law_no", "_law_one", "_law_first", "_law_last", "_law_kinds", "_law_chosen", "_law_inner"]
abbrev P_L_choose : List Str := ["_law_deal_here", "_law_way", "_law_want", "_law_names", "_law_fuel"]
theorem sc_L_choose : FnScope N_L_choose P_L_choose d_L_choose.scope := ⟨rfl, rfl, rfl, by decide +kernel, rfl, by decide +kernel, by decide +kernel⟩

def spChoose (n : Nat) : Sp := fun vs H Q _ => ∃ (d La nd : Addr) (f N : Nat) (kw : Kn) (wv : V) (kvs : List (Key × V)) (way : Int), f < n ∧ f ≤ 12 ∧ vs = [.ref d, .int way, wv, .ref nd, .int ((f : Nat) : Int)] ∧ (way = 5 ∨ way = 6 ∨ way = 7) ∧ DealQ H d La ∧ kw.At H wv ∧ kw.dep + f ≤ 40 ∧ NamesD H nd kvs N ∧ N + 6 * f ≤ 144 ∧
  ∀ (v : V) (H' : Hp), Tm F0 H' (f + 2) v → DealQ H' d La → DMv d La H H' → Q v H'
section
variable {P : Program} {w : World} {K : PySem.W.Frag} {mg : Str → Option Value} {base : Heap}
theorem dmv_none {d La : Addr} {H G : Hp} (m : DMv d La H G) {a : Addr} (n : a ≠ d ∧ a ≠ La) (h : G a = none) : H a = none := by
  cases e : H a with
  | none => rfl
  | some o =>
    have := m a o e n.1 n.2
    rw [h] at this
    cases this
theorem ok_choose (T : Top K mg) (n k : Nat) (hk : 5 ≤ k) (hT : Keeps P w K mg base CX0 (k + 3) d_L_term P_L_term (spTerm n)) : Keeps P w K mg base CX0 (k + 4) d_L_choose P_L_choose (spChoose n) := by
  obtain ⟨fd, F, bd⟩ := T.f_L_choose
  obtain ⟨_, G_L_name⟩ := ok_name (P := P) (w := w) (base := base) T
  obtain ⟨_, G_L_kind⟩ := ok_kind (P := P) (w := w) (base := base) T 5
  obtain ⟨_, G_L_term⟩ := hT
  refine keeps0 F bd sc_L_choose (fun vs H Q E h => ?_) (fun cdv AA outer sh H vs Q E hr h => ?_)
  · obtain ⟨d, La, nd, f, N, kw, wv, kvs, way, _, _, rfl, _⟩ := h
    rfl
  obtain ⟨d, La, nd, f, N, kw, wv, kvs, way, hf, hf2, rfl, hway, dq, hkw, hkd, hn, hN, q⟩ := h
  refine ⟨_, (pss_cons (ps_if (pt_cmpR op_eq (pv 1) pe_int (nomark _))
    (pss_cons (ps_set (i := 5) sc_L_choose.nd rfl (Or.inl rfl) (pe_call G_L_term.ok (hr.mono (by omega)) rfl T.g_law_term G_L_term.kp G_L_term.bd .nil pass0 (pa_cons (pv 0) (pa_cons (pe_tup (pa_cons pe_str pa_nil)) (pa_cons (pv 3) (pa_cons (pv 4) pa_nil))))))
    (pss_cons (ps_set (i := 6) sc_L_choose.nd rfl (Or.inl rfl) (pe_call G_L_term.ok (hr.mono (by omega)) rfl T.g_law_term G_L_term.kp G_L_term.bd .nil pass0 (pa_cons (pv 0) (pa_cons (pv 2) (pa_cons (pv 3) (pa_cons (pv 4) pa_nil))))))
    (pss_one (ps_ret (pe_tup (pa_cons pe_str (pa_cons (pv 5) (pa_cons (pe_tup (pa_cons (pe_tup (pa_cons pe_str (pa_cons (pe_tup pa_nil) (pa_cons (pv 6) pa_nil)))) (pa_cons (pe_tup (pa_cons pe_str (pa_cons (pe_tup pa_nil) (pa_cons (pe_call G_L_term.ok (hr.mono (by omega)) rfl T.g_law_term G_L_term.kp G_L_term.bd .nil pass0 (pa_cons (pv 0) (pa_cons (pv 2) (pa_cons (pv 3) (pa_cons (pv 4) pa_nil))))) pa_nil)))) pa_nil))) pa_nil))))))))
    pss_nil)
    (pss_cons (ps_set (i := 7) sc_L_choose.nd rfl (Or.inl rfl) (pe_call G_L_kind.ok (hr.mono (by omega)) rfl T.g_law_kind G_L_kind.kp G_L_kind.bd .nil pass0 (pa_cons (pv 0) (pa_cons pe_int pa_nil))))
    (pss_cons (ps_set (i := 8) sc_L_choose.nd rfl (Or.inl rfl) (pe_call G_L_name.ok (hr.mono (by omega)) rfl T.g_law_name G_L_name.kp G_L_name.bd .nil pass0 (pa_cons (pv 0) pa_nil)))
    (pss_cons (ps_set (i := 9) sc_L_choose.nd rfl (Or.inl rfl) (pe_call G_L_name.ok (hr.mono (by omega)) rfl T.g_law_name G_L_name.kp G_L_name.bd .nil pass0 (pa_cons (pv 0) pa_nil)))
    (pss_cons (ps_if (pt_cmpR op_eq (pv 8) (pv 9) (nomark _))
    (pss_one (ps_set (i := 9) sc_L_choose.nd rfl (Or.inl rfl) (pe_ix ix_list (pe_lst (pa_cons pe_str (pa_cons pe_str pa_nil))) (pe_callTy call_int1 (by rfl) T.z_int (by decide +kernel) (pa_cons (pe_cmpR op_eq (pv 8) pe_str (nomark _)) pa_nil)) (fun _ _ => rfl))))
    pss_nil)
    (pss_cons (ps_set (i := 10) sc_L_choose.nd rfl (Or.inl rfl) (pe_lst (pa_cons (pv 7) (pa_cons (pe_tup (pa_cons pe_str (pa_cons (pv 7) pa_nil))) pa_nil))))
    (pss_cons (ps_if (pt_cmpR op_eq (pv 1) pe_int (nomark _))
    (pss_one (ps_set (i := 10) sc_L_choose.nd rfl (Or.inl rfl) (pe_lst (pa_cons (pv 7) (pa_cons (pe_call G_L_kind.ok (hr.mono (by omega)) rfl T.g_law_kind G_L_kind.kp G_L_kind.bd .nil pass0 (pa_cons (pv 0) (pa_cons pe_int pa_nil))) pa_nil)))))
    pss_nil)
    (pss_cons (ps_set (i := 5) sc_L_choose.nd rfl (Or.inl rfl) (pe_call G_L_term.ok (hr.mono (by omega)) rfl T.g_law_term G_L_term.kp G_L_term.bd .nil pass0 (pa_cons (pv 0) (pa_cons (pe_ix ix_list (pe_lst (pa_cons (pe_ix ix_list (pv 10) pe_int (fun _ _ => rfl)) (pa_cons (pe_tup (pa_cons pe_str (pa_cons (pe_ix ix_list (pv 10) pe_int (fun _ _ => rfl)) (pa_cons (pe_ix ix_list (pv 10) pe_int (fun _ _ => rfl)) pa_nil)))) pa_nil))) (pe_op op_sub (pv 1) pe_int) (fun _ _ => rfl)) (pa_cons (pv 3) (pa_cons (pv 4) pa_nil))))))
    (pss_cons (ps_set (i := 11) sc_L_choose.nd rfl (Or.inl rfl) (pe_lst pa_nil))
    (pss_cons (ps_if (pt_cmpR op_eq (pv 1) pe_int (nomark _))
    (pss_one (ps_set (i := 11) sc_L_choose.nd rfl (Or.inl rfl) (pe_lst (pa_cons (pe_tup (pa_cons pe_str (pa_cons (pe_tup pa_nil) (pa_cons (pe_call G_L_term.ok (hr.mono (by omega)) rfl T.g_law_term G_L_term.kp G_L_term.bd .nil pass0 (pa_cons (pv 0) (pa_cons (pv 2) (pa_cons (pv 3) (pa_cons (pv 4) pa_nil))))) pa_nil)))) pa_nil))))
    pss_nil)
    (pss_cons (ps_set (i := 12) sc_L_choose.nd rfl (Or.inl rfl) (pe_callTy call_dictD (by rfl) T.z_dict (by decide +kernel) (pa_cons (pv 3) pa_nil)))
    (pss_cons (ps_expr (pe_bm PySem.F.plainAttrs_dict PySem.F.slot_dict_update PySem.F.type_dict_update mt_update (pv 12) (pa_cons (pe_disp (pps_cons (pv 8) (pe_ix ix_list (pv 10) pe_int (fun _ _ => rfl)) (pps_cons (pv 9) (pe_ix ix_list (pv 10) pe_int (fun _ _ => rfl)) pps_nil)) (by rfl) (by rfl) (fun z => by cases z) (by decide)) pa_nil)))
    (pss_cons (ps_expr (pe_bm PySem.F.plainAttrs_list PySem.F.slot_list_append PySem.F.type_list_append mt_append (pv 11) (pa_cons (pe_tup (pa_cons (pe_ix ix_list (pe_lst (pa_cons pe_str (pa_cons pe_str pa_nil))) (pe_op op_sub (pv 1) pe_int) (fun _ _ => rfl)) (pa_cons (pe_tup (pa_cons (pv 8) (pa_cons (pv 9) pa_nil))) (pa_cons (pe_call G_L_term.ok (hr.mono (by omega)) rfl T.g_law_term G_L_term.kp G_L_term.bd .nil pass0 (pa_cons (pv 0) (pa_cons (pv 2) (pa_cons (pv 12) (pa_cons (pv 4) pa_nil))))) pa_nil)))) pa_nil)))
    (pss_one (ps_ret (pe_tup (pa_cons pe_str (pa_cons (pv 5) (pa_cons (pe_callTy call_tuple_of (by rfl) T.z_tuple (by decide +kernel) (pa_cons (pv 11) pa_nil)) pa_nil))))))))))))))))))), ?_⟩
  by_cases h5 : way = 5
  · subst h5
    refine ⟨_, rfl, rfl, _, rfl, ifT rfl ?_⟩
    refine ⟨_, rfl, small50 (by simp), fun t1 ht1 => ⟨_, rfl, _, rfl, ?_⟩⟩
    have e1 := same_new (o := .tup [.str "truth"]) ht1
    refine ⟨d, La, nd, f, N, .truth, .ref t1, kvs, hf, hf2, rfl, dq.same e1, ⟨t1, rfl, upd_same⟩, by show 1 + f ≤ 40; omega, hn.same e1, by omega, fun asked H2 ta d2 m2 => ?_⟩
    have m02 := (DMv.same e1).trans m2
    have n2 := hn.mvQ dq m02
    have w2 := hkw.keep (dq.tupK m02)
    refine ⟨_, rfl, _, rfl, _, rfl, _, rfl, ?_⟩
    refine ⟨d, La, nd, f, N, kw, wv, kvs, hf, hf2, rfl, d2, w2, hkd, n2, by omega, fun no H3 tno d3 m3 => ?_⟩
    have k3 := d2.tupK m3
    refine ⟨_, rfl, small50 (by simp), fun b1 hb1 => ⟨_, rfl, small50 (by simp), fun b2 hb2 => ⟨small50 (by simp), fun b3 hb3 => ⟨_, rfl, _, rfl, _, rfl, _, rfl, ?_⟩⟩⟩⟩
    have f1 := same_new (o := .tup []) hb1
    have f2 := same_new (o := .tup [.str "No", .ref b1, no]) hb2
    have f3 := same_new (o := .tup []) hb3
    have f13 := f1.trans (f2.trans f3)
    refine ⟨d, La, nd, f, N, kw, wv, kvs, hf, hf2, rfl, d3.same f13, (w2.keep k3).keep (sameTupK f13), hkd, (n2.mvQ d2 m3).same f13, by omega, fun yes H4 ty d4 m4 => ?_⟩
    have k4 := (d3.same f13).tupK m4
    refine ⟨small50 (by simp), fun b4 hb4 => ⟨small50 (by simp), fun b5 hb5 => ⟨small50 (by simp), fun r hr' => ?_⟩⟩⟩
    have g4 := same_new (o := .tup [.str "Yes", .ref b3, yes]) hb4
    have g5 := same_new (o := .tup [.ref b2, .ref b4]) hb5
    have g6 := same_new (o := .tup [.str "choose", asked, .ref b5]) hr'
    have a5 := g6
    have a4 := g5.trans a5
    have a3 := g4.trans a4
    have kk : TupK _ _ := fun b xs hb => (sameTupK a3) b xs (k4 b xs hb)
    refine q _ _ ⟨r, _, rfl, upd_same, .choose asked b5 [.ref b2, .ref b4] (((ta.keep k3).keep (sameTupK f13)).keep kk) (a5 _ _ upd_same) (by simp) (fun z hz => ?_)⟩ (d4.same a3) (m02.trans (m3.trans ((DMv.same f13).trans (m4.trans (DMv.same a3)))))
    simp only [List.mem_cons, List.not_mem_nil, or_false] at hz
    rcases hz with rfl | rfl
    · exact ⟨"No", b2, b1, no, [], rfl, kk _ _ (f3 _ _ upd_same), kk _ _ ((f2.trans f3) _ _ upd_same), (tno.keep (sameTupK f13)).keep kk⟩
    · exact ⟨"Yes", b4, b3, yes, [], rfl, a4 _ _ upd_same, kk _ _ upd_same, tm_same ty a3⟩
  have hw67 : way = 6 ∨ way = 7 := by rcases hway with h | h | h <;> simp_all
  refine ⟨_, rfl, rfl, _, rfl, ifF (decide_eq_false fun z => h5 (by injection z)) ?_⟩
  obtain ⟨i, dp⟩ := id dq
  refine ⟨_, rfl, d, La, i, 4, by decide, rfl, dp, fun k1 v1 H1 hk1d ha1 d1 m1 => ?_⟩
  refine ⟨_, rfl, d, La, i, rfl, d1, fun first H2 _ d2 m2 => ?_⟩
  refine ⟨_, rfl, d, La, i, rfl, d2, fun last0 H3 _ d3 m3 => ?_⟩
  have t13 : TupK H1 H3 := fun b xs hb => (d2.tupK m3) b xs ((d1.tupK m2) b xs hb)
  have m03 := m1.trans (m2.trans m3)
  refine ⟨_, rfl, ⟨_, rfl, rfl, _, rfl, ifB (fun _ => ?_) (fun _ => ?_)⟩⟩
  · refine ⟨small50 (by simp), fun lz hlz => ?_⟩
    have z1 := same_new (o := .lst [.str "z", .str "y"]) hlz
    refine ⟨_, rfl, rfl, .inr ⟨_, rfl, ?_⟩⟩
    obtain ⟨last, hlast⟩ : ∃ last : Str, atI [V.str "z", V.str "y"] (if decide (V.str first = V.str "z") = true then 1 else 0) = some (.str last) := by
      by_cases hz : V.str first = V.str "z"
      · exact ⟨"y", by rw [decide_eq_true hz, if_pos rfl]; rfl⟩
      · exact ⟨"z", by rw [decide_eq_false hz, if_neg Bool.false_ne_true]; rfl⟩
    refine ⟨lz, _, _, _, rfl, rfl, SqL.of upd_same, hlast, ?_⟩
    obtain ⟨Hb, hHb⟩ : ∃ Hb, Hb = upd H3 lz (.lst [.str "z", .str "y"]) := ⟨_, rfl⟩
    rw [← hHb] at z1
    rw [← hHb]
    have db : DealQ Hb d La := DealQ.same ⟨i, d3⟩ z1
    have nb := (hn.mvQ dq m03).same z1
    have mb := m03.trans (DMv.same z1)
    have v1b := (ha1.keep t13).keep (sameTupK z1)
    rcases hw67 with rfl | rfl
    ·
      refine ⟨_, rfl, ⟨_, rfl, small50 (by simp), fun tl htl => ⟨small50 (by simp), fun L hL => ?_⟩⟩⟩
      have x1 := same_new (o := .tup [.str "list", v1]) htl
      have x2 := same_new (o := .lst [v1, .ref tl]) hL
      have x12 := x1.trans x2
      have dc := db.same x12
      have nc := nb.same x12
      have mc := mb.trans (DMv.same x12)
      have nLd := (db.same x1).fresh hL
      have gL : _ = some (HO.lst [v1, .ref tl]) := upd_same (H := upd Hb tl (.tup [.str "list", v1])) (a := L) (o := .lst [v1, .ref tl])
      obtain ⟨v2, hv2e⟩ : ∃ v2, v2 = V.ref tl := ⟨_, rfl⟩
      obtain ⟨k2, hk2e⟩ : ∃ k2, k2 = Kn.list k1 := ⟨_, rfl⟩
      have hv1 := v1b.keep (sameTupK x12)
      have hv2 : k2.At (upd (upd Hb tl (.tup [.str "list", v1])) L (.lst [v1, .ref tl])) v2 := by rw [hk2e, hv2e]; exact ⟨tl, v1, rfl, x2 _ _ upd_same, hv1⟩
      have hk2d : k2.dep ≤ 6 := by rw [hk2e]; show k1.dep + 1 ≤ 6; omega
      rw [← hv2e] at gL
      rw [← hv2e] at hv2 dc nc mc hv1
      rw [← hv2e]
      refine ⟨_, rfl, rfl, _, rfl, ifF rfl ?_⟩
      refine ⟨_, rfl, _, rfl, L, _, _, _, rfl, rfl, SqL.of gL, rfl, ⟨_, rfl, L, _, _, _, rfl, rfl, SqL.of gL, rfl, ⟨_, rfl, L, _, _, _, rfl, rfl, SqL.of gL, rfl, small50 (by simp), fun tp htp => ?_⟩⟩⟩
      have e1 := same_new (o := .tup [.str "pair", v1, v2]) htp
      refine ⟨small50 (by simp), fun l3 hl3 => ?_⟩
      have e2 := same_new (o := .lst [v2, .ref tp]) hl3
      have e12 := e1.trans e2
      have dA := dc.same e12
      have nA := nc.same e12
      refine ⟨_, rfl, _, _, rfl, rfl, l3, _, _, _, rfl, rfl, SqL.of upd_same, rfl, _, rfl, _, rfl, ?_⟩
      refine ⟨d, La, nd, f, N, k2, v2, kvs, hf, hf2, rfl, dA, hv2.keep (sameTupK e12), by omega, nA, by omega, fun asked H4 t4 d4 m4 => ?_⟩
      have gL4 := m4 _ _ (e12 _ _ gL) nLd.1 nLd.2
      have mA := mc.trans ((DMv.same e12).trans m4)
      have k4 := (dA.tupK m4)
      have kA := sameTupK e12
      have v14 := (hv1.keep kA).keep k4
      have v24 := (hv2.keep kA).keep k4
      have n4 := nA.mvQ dA m4
      have w4 := hkw.keep (dq.tupK mA)
      refine ⟨small50 (by simp), fun C0 hC0 => ?_⟩
      have e5 := same_new (o := .lst []) hC0
      refine ⟨_, rfl, rfl, _, rfl, ifT rfl ?_⟩
      have d5 := d4.same e5
      have n5 := n4.same e5
      refine ⟨small50 (by simp), fun b1 hb1 => ⟨_, rfl, _, rfl, _, rfl, _, rfl, ?_⟩⟩
      have y1 := same_new (o := .tup []) hb1
      have w5 := (w4.keep (sameTupK e5)).keep (sameTupK y1)
      refine ⟨d, La, nd, f, N, kw, wv, kvs, hf, hf2, rfl, d5.same y1, w5, hkd, n5.same y1, by omega, fun v9 H9 t9 d9 m9 => ⟨small50 (by simp), fun b2 hb2 => ⟨small50 (by simp), fun C hC => ?_⟩⟩⟩
      have y2 := same_new (o := .tup [.str "Nil", .ref b1, v9]) hb2
      have y3 := same_new (o := .lst [.ref b2]) hC
      have y23 := y2.trans y3
      have ke9 : TupK H4 _ := fun b xs hb => (sameTupK y23) b xs (((d5.same y1).tupK m9) b xs ((sameTupK (e5.trans y1)) b xs hb))
      obtain ⟨H6, hH6⟩ : ∃ H6, H6 = upd (upd H9 b2 (.tup [.str "Nil", .ref b1, v9])) C (.lst [.ref b2]) := ⟨_, rfl⟩
      have gL6 : H6 L = some (.lst [v1, v2]) := by rw [hH6]; exact y23 _ _ (m9 _ _ (y1 _ _ (e5 _ _ gL4)) nLd.1 nLd.2)
      have gC : H6 C = some (.lst [.ref b2]) := by rw [hH6]; exact upd_same
      have d6 : DealQ H6 d La := by rw [hH6]; exact d9.same y23
      have n6 : NamesD H6 nd kvs N := by rw [hH6]; exact ((n5.same y1).mvQ (d5.same y1) m9).same y23
      have v16 : k1.At H6 v1 := by rw [hH6]; exact v14.keep ke9
      have v26 : k2.At H6 v2 := by rw [hH6]; exact v24.keep ke9
      have w6 : kw.At H6 wv := by rw [hH6]; exact w4.keep ke9
      have ta6 : Tm F0 H6 (f + 1) asked := by rw [hH6]; exact t4.keep ke9
      have nCd := (d9.same y2).fresh hC
      have m9t : DMv d La H (upd H9 b2 (.tup [.str "Nil", .ref b1, v9])) := mA.trans ((DMv.same (e5.trans y1)).trans (m9.trans (DMv.same y2)))
      have hCH := dmv_none m9t nCd hC
      have mH6 : DMv d La H H6 := by rw [hH6]; exact m9t.trans (DMv.same y3)
      obtain ⟨ch, hche⟩ : ∃ ch, ch = [V.ref b2] := ⟨_, rfl⟩
      have hch : ∀ v ∈ ch, ∃ c, Alt H6 (Tm F0 H6 (f + 1)) c v := fun v hv => by
        rw [hche] at hv
        rw [List.mem_singleton.mp hv, hH6]
        exact ⟨"Nil", b2, b1, v9, [], rfl, y3 _ _ upd_same, y23 _ _ (((d5.same y1).tupK m9) _ _ upd_same), tm_same t9 y23⟩
      have lch : ch.length ≤ 1 := by rw [hche]; simp
      rw [← hche] at gC
      rw [← hH6]
      -- inner, the last alternative
      have hnl := hn.len
      refine ⟨_, rfl, nd, kvs, rfl, .inl n6.at_, fun n2 hn2 => ?_⟩
      have e7 := same_new (o := .dK kvs) hn2
      have nn2 := d6.fresh hn2
      have nCn : C ≠ n2 := fun z => by rw [z, hn2] at gC; cases gC
      refine ⟨_, rfl, .inr (.inr (.inl ⟨rfl, .inl ⟨_, upd_same⟩⟩)), fun dd hdd => ?_⟩
      have e8 := same_new (o := .dK []) hdd
      have nd2 : n2 ≠ dd := fun z => by rw [z, upd_same] at hdd; cases hdd
      have e78 := e7.trans e8
      refine ⟨_, rfl, _, rfl, L, _, _, _, rfl, rfl, SqL.of (e78 _ _ gL6), rfl, ⟨_, rfl, _, rfl, L, _, _, _, rfl, rfl, SqL.of (e78 _ _ gL6), rfl, upd_same, [(.inr first, v1), (.inr last, v2)], rfl, by simp, ?_⟩⟩
      have lm := length_mergeK [((.inr first : Key), v1), (.inr last, v2)] []
      refine ⟨n2, dd, kvs, _, rfl, rfl, nd2, by rw [upd_ne nd2]; exact e8 _ _ upd_same, upd_same, by rw [sizeLine_eq]; simp only [List.length_nil, List.length_cons] at lm; omega, ?_⟩
      obtain ⟨G, hG⟩ : ∃ G, G = upd (upd (upd (upd H6 n2 (.dK kvs)) dd (.dK [])) dd (.dK (mergeK [] [((.inr first : Key), v1), (.inr last, v2)]))) n2 (.dK (mergeK kvs (mergeK [] [((.inr first : Key), v1), (.inr last, v2)]))) := ⟨_, rfl⟩
      have ddf : H6 dd = none := by rw [upd_ne nd2.symm] at hdd; exact hdd
      have sG : Same H6 G := fun b o e => by
        rw [hG, upd_ne (ne_of_none e hn2), upd_ne (ne_of_none e ddf)]
        exact e78 _ _ e
      have gn : G n2 = some (.dK (mergeK kvs (mergeK [] [((.inr first : Key), v1), (.inr last, v2)]))) := by rw [hG]; exact upd_same
      rw [← hG]
      have kG := sameTupK sG
      have dG := d6.same sG
      have nG : NamesD G n2 (mergeK kvs (mergeK [] [((.inr first : Key), v1), (.inr last, v2)])) (N + 2) := ⟨gn, by have := length_mergeK (mergeK [] [((.inr first : Key), v1), (.inr last, v2)]) kvs; simp only [List.length_nil, List.length_cons] at lm; omega, fun z hz => by
        rcases mergeK_mem hz with h | ⟨y, hy, h1, h2⟩
        · obtain ⟨x', k', h1, h2, h3⟩ := n6.vals z h
          exact ⟨x', k', h1, h2.keep kG, h3⟩
        · rcases mergeK_mem hy with h | ⟨y', hy', h3, h4⟩
          · cases h
          · simp only [List.mem_cons, List.not_mem_nil, or_false] at hy'
            rcases hy' with rfl | rfl
            · exact ⟨first, k1, by rw [← h2, ← h4], by rw [← h1, ← h3]; exact v16.keep kG, by omega⟩
            · exact ⟨last, k2, by rw [← h2, ← h4], by rw [← h1, ← h3]; exact v26.keep kG, by omega⟩⟩
      refine ⟨_, rfl, .inl ⟨rfl, _, SqL.of (sG _ _ gC)⟩, small50 (by simp), fun l4 hl4 => ?_⟩
      have e9 := same_new (o := .lst [.str "Cons", .str "Pair"]) hl4
      refine ⟨_, rfl, _, _, rfl, rfl, l4, _, _, _, rfl, rfl, SqL.of upd_same, rfl, _, rfl, _, rfl, small50 (by simp), fun tn htn => ?_⟩
      have e10 := same_new (o := .tup [.str first, .str last]) htn
      have sG2 := e9.trans e10
      refine ⟨_, rfl, _, rfl, _, rfl, _, rfl, ?_⟩
      have w10 := ((w6.keep kG).keep (sameTupK sG2))
      refine ⟨d, La, n2, f, N + 2, kw, wv, _, hf, hf2, rfl, dG.same sG2, w10, hkd, nG.same sG2, by omega, fun v8 H8 t8 d8 m8 => ?_⟩
      have k8 := (dG.same sG2).tupK m8
      refine ⟨small50 (by simp), fun u hu => ?_⟩
      have e11 := same_new (o := .tup [.str "Cons", .ref tn, v8]) hu
      have gC8 := e11 _ _ (m8 _ _ (sG2 _ _ (sG _ _ gC)) nCd.1 nCd.2)
      refine ⟨C, _, _, rfl, rfl, gC8, small9 (by omega), ?_⟩
      have st := sty_off (o := .lst (ch ++ [.ref u])) (.inl ⟨_, gC8⟩)
      have toG : TupK H6 (upd (upd H8 u (.tup [.str "Cons", .ref tn, v8])) C (.lst (ch ++ [.ref u]))) := fun b xs hb => st.1 _ _ (e11 _ _ (k8 _ _ ((sameTupK sG2) _ _ (kG _ _ hb))))
      refine ⟨_, rfl, _, rfl, C, _, rfl, .inl ⟨SqL.of upd_same, fun ta hta => ?_⟩⟩
      have e12 := same_new (o := .tup (ch ++ [.ref u])) hta
      refine ⟨small50 (by simp), fun r hr' => ?_⟩
      have e13 := same_new (o := .tup [.str "choose", asked, .ref ta]) hr'
      have e123 := e12.trans e13
      have k123 := sameTupK e123
      refine q _ _ ⟨r, _, rfl, upd_same, .choose asked ta (ch ++ [.ref u]) ((ta6.keep toG).keep k123) (e13 _ _ upd_same) (by rw [List.length_append]; simp; omega) (fun z hz => ?_)⟩ ?_ ?_
      · rcases List.mem_append.mp hz with h | h
        · obtain ⟨c', hc'⟩ := hch z h
          exact ⟨c', alt_same (alt_same hc' toG) k123⟩
        · rw [List.mem_singleton.mp h]
          exact ⟨_, u, tn, v8, [first, last], rfl, k123 _ _ (st.1 _ _ upd_same), k123 _ _ (st.1 _ _ (e11 _ _ (k8 _ _ upd_same))), ((tm_same t8 e11).keep st.1).keep k123⟩
      · exact ((d8.same e11).off nCd).same e123
      · exact (dmv_grow (mH6.trans ((DMv.same sG).trans ((DMv.same sG2).trans (m8.trans (DMv.same e11))))) hCH).trans (DMv.same e123)
    ·
      refine ⟨_, rfl, ⟨_, rfl, small50 (by simp), fun tl htl => ⟨small50 (by simp), fun L0 hL0 => ?_⟩⟩⟩
      have x1 := same_new (o := .tup [.str "list", v1]) htl
      have x2 := same_new (o := .lst [v1, .ref tl]) hL0
      have x12 := x1.trans x2
      have dx := db.same x12
      obtain ⟨ix, dpx⟩ := id dx
      refine ⟨_, rfl, rfl, _, rfl, ifT rfl ?_⟩
      refine ⟨_, rfl, ⟨_, rfl, ?_⟩⟩
      refine ⟨d, La, ix, 4, by decide, rfl, dpx, fun k2 v2 Hk hk2d' hv2k dk mk => ⟨small50 (by simp), fun L hL => ?_⟩⟩
      have x3 := same_new (o := .lst [v1, v2]) hL
      have dkq : DealQ Hk d La := ⟨ix, dk⟩
      have dc := dkq.same x3
      have nc := ((nb.same x12).mvQ dx mk).same x3
      have mc := (mb.trans (DMv.same x12)).trans (mk.trans (DMv.same x3))
      have nLd := dk.fresh hL
      have gL : _ = some (HO.lst [v1, v2]) := upd_same (H := Hk) (a := L) (o := .lst [v1, v2])
      have hv1 := ((v1b.keep (sameTupK x12)).keep (dx.tupK mk)).keep (sameTupK x3)
      have hv2 := hv2k.keep (sameTupK x3)
      have hk2d : k2.dep ≤ 6 := by omega
      refine ⟨_, rfl, _, rfl, L, _, _, _, rfl, rfl, SqL.of gL, rfl, ⟨_, rfl, L, _, _, _, rfl, rfl, SqL.of gL, rfl, ⟨_, rfl, L, _, _, _, rfl, rfl, SqL.of gL, rfl, small50 (by simp), fun tp htp => ?_⟩⟩⟩
      have e1 := same_new (o := .tup [.str "pair", v1, v2]) htp
      refine ⟨small50 (by simp), fun l3 hl3 => ?_⟩
      have e2 := same_new (o := .lst [v2, .ref tp]) hl3
      have e12 := e1.trans e2
      have dA := dc.same e12
      have nA := nc.same e12
      refine ⟨_, rfl, _, _, rfl, rfl, l3, _, _, _, rfl, rfl, SqL.of upd_same, rfl, _, rfl, _, rfl, ?_⟩
      refine ⟨d, La, nd, f, N, (.pair k1 k2), (.ref tp), kvs, hf, hf2, rfl, dA, ⟨tp, v1, v2, rfl, e2 _ _ upd_same, hv1.keep (sameTupK e12), hv2.keep (sameTupK e12)⟩, by (show max k1.dep k2.dep + 1 + f ≤ 40; omega), nA, by omega, fun asked H4 t4 d4 m4 => ?_⟩
      have gL4 := m4 _ _ (e12 _ _ gL) nLd.1 nLd.2
      have mA := mc.trans ((DMv.same e12).trans m4)
      have k4 := (dA.tupK m4)
      have kA := sameTupK e12
      have v14 := (hv1.keep kA).keep k4
      have v24 := (hv2.keep kA).keep k4
      have n4 := nA.mvQ dA m4
      have w4 := hkw.keep (dq.tupK mA)
      refine ⟨small50 (by simp), fun C0 hC0 => ?_⟩
      have e5 := same_new (o := .lst []) hC0
      refine ⟨_, rfl, rfl, _, rfl, ifF rfl ?_⟩
      obtain ⟨C, hCe⟩ : ∃ C, C = C0 := ⟨_, rfl⟩
      obtain ⟨H6, hH6⟩ : ∃ H6, H6 = upd H4 C0 (.lst []) := ⟨_, rfl⟩
      have gL6 : H6 L = some (.lst [v1, v2]) := by rw [hH6]; exact e5 _ _ gL4
      have gC : H6 C = some (.lst []) := by rw [hH6, hCe]; exact upd_same
      have d6 : DealQ H6 d La := by rw [hH6]; exact d4.same e5
      have n6 : NamesD H6 nd kvs N := by rw [hH6]; exact n4.same e5
      have v16 : k1.At H6 v1 := by rw [hH6]; exact v14.keep (sameTupK e5)
      have v26 : k2.At H6 v2 := by rw [hH6]; exact v24.keep (sameTupK e5)
      have w6 : kw.At H6 wv := by rw [hH6]; exact w4.keep (sameTupK e5)
      have ta6 : Tm F0 H6 (f + 1) asked := by rw [hH6]; exact tm_same t4 e5
      have nCd : C ≠ d ∧ C ≠ La := by rw [hCe]; exact d4.fresh hC0
      have hCH : H C = none := dmv_none mA nCd (by rw [hCe]; exact hC0)
      have mH6 : DMv d La H H6 := by rw [hH6]; exact mA.trans (DMv.same e5)
      obtain ⟨ch, hche⟩ : ∃ ch : List V, ch = [] := ⟨_, rfl⟩
      have hch : ∀ v ∈ ch, ∃ c, Alt H6 (Tm F0 H6 (f + 1)) c v := fun v hv => by
        rw [hche] at hv
        cases hv
      have lch : ch.length ≤ 1 := by rw [hche]; simp
      rw [← hche] at gC
      rw [← hH6, ← hCe]
      -- inner, the last alternative
      have hnl := hn.len
      refine ⟨_, rfl, nd, kvs, rfl, .inl n6.at_, fun n2 hn2 => ?_⟩
      have e7 := same_new (o := .dK kvs) hn2
      have nn2 := d6.fresh hn2
      have nCn : C ≠ n2 := fun z => by rw [z, hn2] at gC; cases gC
      refine ⟨_, rfl, .inr (.inr (.inl ⟨rfl, .inl ⟨_, upd_same⟩⟩)), fun dd hdd => ?_⟩
      have e8 := same_new (o := .dK []) hdd
      have nd2 : n2 ≠ dd := fun z => by rw [z, upd_same] at hdd; cases hdd
      have e78 := e7.trans e8
      refine ⟨_, rfl, _, rfl, L, _, _, _, rfl, rfl, SqL.of (e78 _ _ gL6), rfl, ⟨_, rfl, _, rfl, L, _, _, _, rfl, rfl, SqL.of (e78 _ _ gL6), rfl, upd_same, [(.inr first, v1), (.inr last, v2)], rfl, by simp, ?_⟩⟩
      have lm := length_mergeK [((.inr first : Key), v1), (.inr last, v2)] []
      refine ⟨n2, dd, kvs, _, rfl, rfl, nd2, by rw [upd_ne nd2]; exact e8 _ _ upd_same, upd_same, by rw [sizeLine_eq]; simp only [List.length_nil, List.length_cons] at lm; omega, ?_⟩
      obtain ⟨G, hG⟩ : ∃ G, G = upd (upd (upd (upd H6 n2 (.dK kvs)) dd (.dK [])) dd (.dK (mergeK [] [((.inr first : Key), v1), (.inr last, v2)]))) n2 (.dK (mergeK kvs (mergeK [] [((.inr first : Key), v1), (.inr last, v2)]))) := ⟨_, rfl⟩
      have ddf : H6 dd = none := by rw [upd_ne nd2.symm] at hdd; exact hdd
      have sG : Same H6 G := fun b o e => by
        rw [hG, upd_ne (ne_of_none e hn2), upd_ne (ne_of_none e ddf)]
        exact e78 _ _ e
      have gn : G n2 = some (.dK (mergeK kvs (mergeK [] [((.inr first : Key), v1), (.inr last, v2)]))) := by rw [hG]; exact upd_same
      rw [← hG]
      have kG := sameTupK sG
      have dG := d6.same sG
      have nG : NamesD G n2 (mergeK kvs (mergeK [] [((.inr first : Key), v1), (.inr last, v2)])) (N + 2) := ⟨gn, by have := length_mergeK (mergeK [] [((.inr first : Key), v1), (.inr last, v2)]) kvs; simp only [List.length_nil, List.length_cons] at lm; omega, fun z hz => by
        rcases mergeK_mem hz with h | ⟨y, hy, h1, h2⟩
        · obtain ⟨x', k', h1, h2, h3⟩ := n6.vals z h
          exact ⟨x', k', h1, h2.keep kG, h3⟩
        · rcases mergeK_mem hy with h | ⟨y', hy', h3, h4⟩
          · cases h
          · simp only [List.mem_cons, List.not_mem_nil, or_false] at hy'
            rcases hy' with rfl | rfl
            · exact ⟨first, k1, by rw [← h2, ← h4], by rw [← h1, ← h3]; exact v16.keep kG, by omega⟩
            · exact ⟨last, k2, by rw [← h2, ← h4], by rw [← h1, ← h3]; exact v26.keep kG, by omega⟩⟩
      refine ⟨_, rfl, .inl ⟨rfl, _, SqL.of (sG _ _ gC)⟩, small50 (by simp), fun l4 hl4 => ?_⟩
      have e9 := same_new (o := .lst [.str "Cons", .str "Pair"]) hl4
      refine ⟨_, rfl, _, _, rfl, rfl, l4, _, _, _, rfl, rfl, SqL.of upd_same, rfl, _, rfl, _, rfl, small50 (by simp), fun tn htn => ?_⟩
      have e10 := same_new (o := .tup [.str first, .str last]) htn
      have sG2 := e9.trans e10
      refine ⟨_, rfl, _, rfl, _, rfl, _, rfl, ?_⟩
      have w10 := ((w6.keep kG).keep (sameTupK sG2))
      refine ⟨d, La, n2, f, N + 2, kw, wv, _, hf, hf2, rfl, dG.same sG2, w10, hkd, nG.same sG2, by omega, fun v8 H8 t8 d8 m8 => ?_⟩
      have k8 := (dG.same sG2).tupK m8
      refine ⟨small50 (by simp), fun u hu => ?_⟩
      have e11 := same_new (o := .tup [.str "Pair", .ref tn, v8]) hu
      have gC8 := e11 _ _ (m8 _ _ (sG2 _ _ (sG _ _ gC)) nCd.1 nCd.2)
      refine ⟨C, _, _, rfl, rfl, gC8, small9 (by omega), ?_⟩
      have st := sty_off (o := .lst (ch ++ [.ref u])) (.inl ⟨_, gC8⟩)
      have toG : TupK H6 (upd (upd H8 u (.tup [.str "Pair", .ref tn, v8])) C (.lst (ch ++ [.ref u]))) := fun b xs hb => st.1 _ _ (e11 _ _ (k8 _ _ ((sameTupK sG2) _ _ (kG _ _ hb))))
      refine ⟨_, rfl, _, rfl, C, _, rfl, .inl ⟨SqL.of upd_same, fun ta hta => ?_⟩⟩
      have e12 := same_new (o := .tup (ch ++ [.ref u])) hta
      refine ⟨small50 (by simp), fun r hr' => ?_⟩
      have e13 := same_new (o := .tup [.str "choose", asked, .ref ta]) hr'
      have e123 := e12.trans e13
      have k123 := sameTupK e123
      refine q _ _ ⟨r, _, rfl, upd_same, .choose asked ta (ch ++ [.ref u]) ((ta6.keep toG).keep k123) (e13 _ _ upd_same) (by rw [List.length_append]; simp; omega) (fun z hz => ?_)⟩ ?_ ?_
      · rcases List.mem_append.mp hz with h | h
        · obtain ⟨c', hc'⟩ := hch z h
          exact ⟨c', alt_same (alt_same hc' toG) k123⟩
        · rw [List.mem_singleton.mp h]
          exact ⟨_, u, tn, v8, [first, last], rfl, k123 _ _ (st.1 _ _ upd_same), k123 _ _ (st.1 _ _ (e11 _ _ (k8 _ _ upd_same))), ((tm_same t8 e11).keep st.1).keep k123⟩
      · exact ((d8.same e11).off nCd).same e123
      · exact (dmv_grow (mH6.trans ((DMv.same sG).trans ((DMv.same sG2).trans (m8.trans (DMv.same e11))))) hCH).trans (DMv.same e123)
  · obtain ⟨Hb, hHb⟩ : ∃ Hb, Hb = H3 := ⟨_, rfl⟩
    obtain ⟨last, hlast⟩ : ∃ last, last = last0 := ⟨_, rfl⟩
    rw [← hHb] at d3 m03 t13
    rw [← hHb, ← hlast]
    have db : DealQ Hb d La := ⟨i, d3⟩
    have nb := hn.mvQ dq m03
    have mb := m03
    have v1b := ha1.keep t13
    rcases hw67 with rfl | rfl
    ·
      refine ⟨_, rfl, ⟨_, rfl, small50 (by simp), fun tl htl => ⟨small50 (by simp), fun L hL => ?_⟩⟩⟩
      have x1 := same_new (o := .tup [.str "list", v1]) htl
      have x2 := same_new (o := .lst [v1, .ref tl]) hL
      have x12 := x1.trans x2
      have dc := db.same x12
      have nc := nb.same x12
      have mc := mb.trans (DMv.same x12)
      have nLd := (db.same x1).fresh hL
      have gL : _ = some (HO.lst [v1, .ref tl]) := upd_same (H := upd Hb tl (.tup [.str "list", v1])) (a := L) (o := .lst [v1, .ref tl])
      obtain ⟨v2, hv2e⟩ : ∃ v2, v2 = V.ref tl := ⟨_, rfl⟩
      obtain ⟨k2, hk2e⟩ : ∃ k2, k2 = Kn.list k1 := ⟨_, rfl⟩
      have hv1 := v1b.keep (sameTupK x12)
      have hv2 : k2.At (upd (upd Hb tl (.tup [.str "list", v1])) L (.lst [v1, .ref tl])) v2 := by rw [hk2e, hv2e]; exact ⟨tl, v1, rfl, x2 _ _ upd_same, hv1⟩
      have hk2d : k2.dep ≤ 6 := by rw [hk2e]; show k1.dep + 1 ≤ 6; omega
      rw [← hv2e] at gL
      rw [← hv2e] at hv2 dc nc mc hv1
      rw [← hv2e]
      refine ⟨_, rfl, rfl, _, rfl, ifF rfl ?_⟩
      refine ⟨_, rfl, _, rfl, L, _, _, _, rfl, rfl, SqL.of gL, rfl, ⟨_, rfl, L, _, _, _, rfl, rfl, SqL.of gL, rfl, ⟨_, rfl, L, _, _, _, rfl, rfl, SqL.of gL, rfl, small50 (by simp), fun tp htp => ?_⟩⟩⟩
      have e1 := same_new (o := .tup [.str "pair", v1, v2]) htp
      refine ⟨small50 (by simp), fun l3 hl3 => ?_⟩
      have e2 := same_new (o := .lst [v2, .ref tp]) hl3
      have e12 := e1.trans e2
      have dA := dc.same e12
      have nA := nc.same e12
      refine ⟨_, rfl, _, _, rfl, rfl, l3, _, _, _, rfl, rfl, SqL.of upd_same, rfl, _, rfl, _, rfl, ?_⟩
      refine ⟨d, La, nd, f, N, k2, v2, kvs, hf, hf2, rfl, dA, hv2.keep (sameTupK e12), by omega, nA, by omega, fun asked H4 t4 d4 m4 => ?_⟩
      have gL4 := m4 _ _ (e12 _ _ gL) nLd.1 nLd.2
      have mA := mc.trans ((DMv.same e12).trans m4)
      have k4 := (dA.tupK m4)
      have kA := sameTupK e12
      have v14 := (hv1.keep kA).keep k4
      have v24 := (hv2.keep kA).keep k4
      have n4 := nA.mvQ dA m4
      have w4 := hkw.keep (dq.tupK mA)
      refine ⟨small50 (by simp), fun C0 hC0 => ?_⟩
      have e5 := same_new (o := .lst []) hC0
      refine ⟨_, rfl, rfl, _, rfl, ifT rfl ?_⟩
      have d5 := d4.same e5
      have n5 := n4.same e5
      refine ⟨small50 (by simp), fun b1 hb1 => ⟨_, rfl, _, rfl, _, rfl, _, rfl, ?_⟩⟩
      have y1 := same_new (o := .tup []) hb1
      have w5 := (w4.keep (sameTupK e5)).keep (sameTupK y1)
      refine ⟨d, La, nd, f, N, kw, wv, kvs, hf, hf2, rfl, d5.same y1, w5, hkd, n5.same y1, by omega, fun v9 H9 t9 d9 m9 => ⟨small50 (by simp), fun b2 hb2 => ⟨small50 (by simp), fun C hC => ?_⟩⟩⟩
      have y2 := same_new (o := .tup [.str "Nil", .ref b1, v9]) hb2
      have y3 := same_new (o := .lst [.ref b2]) hC
      have y23 := y2.trans y3
      have ke9 : TupK H4 _ := fun b xs hb => (sameTupK y23) b xs (((d5.same y1).tupK m9) b xs ((sameTupK (e5.trans y1)) b xs hb))
      obtain ⟨H6, hH6⟩ : ∃ H6, H6 = upd (upd H9 b2 (.tup [.str "Nil", .ref b1, v9])) C (.lst [.ref b2]) := ⟨_, rfl⟩
      have gL6 : H6 L = some (.lst [v1, v2]) := by rw [hH6]; exact y23 _ _ (m9 _ _ (y1 _ _ (e5 _ _ gL4)) nLd.1 nLd.2)
      have gC : H6 C = some (.lst [.ref b2]) := by rw [hH6]; exact upd_same
      have d6 : DealQ H6 d La := by rw [hH6]; exact d9.same y23
      have n6 : NamesD H6 nd kvs N := by rw [hH6]; exact ((n5.same y1).mvQ (d5.same y1) m9).same y23
      have v16 : k1.At H6 v1 := by rw [hH6]; exact v14.keep ke9
      have v26 : k2.At H6 v2 := by rw [hH6]; exact v24.keep ke9
      have w6 : kw.At H6 wv := by rw [hH6]; exact w4.keep ke9
      have ta6 : Tm F0 H6 (f + 1) asked := by rw [hH6]; exact t4.keep ke9
      have nCd := (d9.same y2).fresh hC
      have m9t : DMv d La H (upd H9 b2 (.tup [.str "Nil", .ref b1, v9])) := mA.trans ((DMv.same (e5.trans y1)).trans (m9.trans (DMv.same y2)))
      have hCH := dmv_none m9t nCd hC
      have mH6 : DMv d La H H6 := by rw [hH6]; exact m9t.trans (DMv.same y3)
      obtain ⟨ch, hche⟩ : ∃ ch, ch = [V.ref b2] := ⟨_, rfl⟩
      have hch : ∀ v ∈ ch, ∃ c, Alt H6 (Tm F0 H6 (f + 1)) c v := fun v hv => by
        rw [hche] at hv
        rw [List.mem_singleton.mp hv, hH6]
        exact ⟨"Nil", b2, b1, v9, [], rfl, y3 _ _ upd_same, y23 _ _ (((d5.same y1).tupK m9) _ _ upd_same), tm_same t9 y23⟩
      have lch : ch.length ≤ 1 := by rw [hche]; simp
      rw [← hche] at gC
      rw [← hH6]
      -- inner, the last alternative
      have hnl := hn.len
      refine ⟨_, rfl, nd, kvs, rfl, .inl n6.at_, fun n2 hn2 => ?_⟩
      have e7 := same_new (o := .dK kvs) hn2
      have nn2 := d6.fresh hn2
      have nCn : C ≠ n2 := fun z => by rw [z, hn2] at gC; cases gC
      refine ⟨_, rfl, .inr (.inr (.inl ⟨rfl, .inl ⟨_, upd_same⟩⟩)), fun dd hdd => ?_⟩
      have e8 := same_new (o := .dK []) hdd
      have nd2 : n2 ≠ dd := fun z => by rw [z, upd_same] at hdd; cases hdd
      have e78 := e7.trans e8
      refine ⟨_, rfl, _, rfl, L, _, _, _, rfl, rfl, SqL.of (e78 _ _ gL6), rfl, ⟨_, rfl, _, rfl, L, _, _, _, rfl, rfl, SqL.of (e78 _ _ gL6), rfl, upd_same, [(.inr first, v1), (.inr last, v2)], rfl, by simp, ?_⟩⟩
      have lm := length_mergeK [((.inr first : Key), v1), (.inr last, v2)] []
      refine ⟨n2, dd, kvs, _, rfl, rfl, nd2, by rw [upd_ne nd2]; exact e8 _ _ upd_same, upd_same, by rw [sizeLine_eq]; simp only [List.length_nil, List.length_cons] at lm; omega, ?_⟩
      obtain ⟨G, hG⟩ : ∃ G, G = upd (upd (upd (upd H6 n2 (.dK kvs)) dd (.dK [])) dd (.dK (mergeK [] [((.inr first : Key), v1), (.inr last, v2)]))) n2 (.dK (mergeK kvs (mergeK [] [((.inr first : Key), v1), (.inr last, v2)]))) := ⟨_, rfl⟩
      have ddf : H6 dd = none := by rw [upd_ne nd2.symm] at hdd; exact hdd
      have sG : Same H6 G := fun b o e => by
        rw [hG, upd_ne (ne_of_none e hn2), upd_ne (ne_of_none e ddf)]
        exact e78 _ _ e
      have gn : G n2 = some (.dK (mergeK kvs (mergeK [] [((.inr first : Key), v1), (.inr last, v2)]))) := by rw [hG]; exact upd_same
      rw [← hG]
      have kG := sameTupK sG
      have dG := d6.same sG
      have nG : NamesD G n2 (mergeK kvs (mergeK [] [((.inr first : Key), v1), (.inr last, v2)])) (N + 2) := ⟨gn, by have := length_mergeK (mergeK [] [((.inr first : Key), v1), (.inr last, v2)]) kvs; simp only [List.length_nil, List.length_cons] at lm; omega, fun z hz => by
        rcases mergeK_mem hz with h | ⟨y, hy, h1, h2⟩
        · obtain ⟨x', k', h1, h2, h3⟩ := n6.vals z h
          exact ⟨x', k', h1, h2.keep kG, h3⟩
        · rcases mergeK_mem hy with h | ⟨y', hy', h3, h4⟩
          · cases h
          · simp only [List.mem_cons, List.not_mem_nil, or_false] at hy'
            rcases hy' with rfl | rfl
            · exact ⟨first, k1, by rw [← h2, ← h4], by rw [← h1, ← h3]; exact v16.keep kG, by omega⟩
            · exact ⟨last, k2, by rw [← h2, ← h4], by rw [← h1, ← h3]; exact v26.keep kG, by omega⟩⟩
      refine ⟨_, rfl, .inl ⟨rfl, _, SqL.of (sG _ _ gC)⟩, small50 (by simp), fun l4 hl4 => ?_⟩
      have e9 := same_new (o := .lst [.str "Cons", .str "Pair"]) hl4
      refine ⟨_, rfl, _, _, rfl, rfl, l4, _, _, _, rfl, rfl, SqL.of upd_same, rfl, _, rfl, _, rfl, small50 (by simp), fun tn htn => ?_⟩
      have e10 := same_new (o := .tup [.str first, .str last]) htn
      have sG2 := e9.trans e10
      refine ⟨_, rfl, _, rfl, _, rfl, _, rfl, ?_⟩
      have w10 := ((w6.keep kG).keep (sameTupK sG2))
      refine ⟨d, La, n2, f, N + 2, kw, wv, _, hf, hf2, rfl, dG.same sG2, w10, hkd, nG.same sG2, by omega, fun v8 H8 t8 d8 m8 => ?_⟩
      have k8 := (dG.same sG2).tupK m8
      refine ⟨small50 (by simp), fun u hu => ?_⟩
      have e11 := same_new (o := .tup [.str "Cons", .ref tn, v8]) hu
      have gC8 := e11 _ _ (m8 _ _ (sG2 _ _ (sG _ _ gC)) nCd.1 nCd.2)
      refine ⟨C, _, _, rfl, rfl, gC8, small9 (by omega), ?_⟩
      have st := sty_off (o := .lst (ch ++ [.ref u])) (.inl ⟨_, gC8⟩)
      have toG : TupK H6 (upd (upd H8 u (.tup [.str "Cons", .ref tn, v8])) C (.lst (ch ++ [.ref u]))) := fun b xs hb => st.1 _ _ (e11 _ _ (k8 _ _ ((sameTupK sG2) _ _ (kG _ _ hb))))
      refine ⟨_, rfl, _, rfl, C, _, rfl, .inl ⟨SqL.of upd_same, fun ta hta => ?_⟩⟩
      have e12 := same_new (o := .tup (ch ++ [.ref u])) hta
      refine ⟨small50 (by simp), fun r hr' => ?_⟩
      have e13 := same_new (o := .tup [.str "choose", asked, .ref ta]) hr'
      have e123 := e12.trans e13
      have k123 := sameTupK e123
      refine q _ _ ⟨r, _, rfl, upd_same, .choose asked ta (ch ++ [.ref u]) ((ta6.keep toG).keep k123) (e13 _ _ upd_same) (by rw [List.length_append]; simp; omega) (fun z hz => ?_)⟩ ?_ ?_
      · rcases List.mem_append.mp hz with h | h
        · obtain ⟨c', hc'⟩ := hch z h
          exact ⟨c', alt_same (alt_same hc' toG) k123⟩
        · rw [List.mem_singleton.mp h]
          exact ⟨_, u, tn, v8, [first, last], rfl, k123 _ _ (st.1 _ _ upd_same), k123 _ _ (st.1 _ _ (e11 _ _ (k8 _ _ upd_same))), ((tm_same t8 e11).keep st.1).keep k123⟩
      · exact ((d8.same e11).off nCd).same e123
      · exact (dmv_grow (mH6.trans ((DMv.same sG).trans ((DMv.same sG2).trans (m8.trans (DMv.same e11))))) hCH).trans (DMv.same e123)
    ·
      refine ⟨_, rfl, ⟨_, rfl, small50 (by simp), fun tl htl => ⟨small50 (by simp), fun L0 hL0 => ?_⟩⟩⟩
      have x1 := same_new (o := .tup [.str "list", v1]) htl
      have x2 := same_new (o := .lst [v1, .ref tl]) hL0
      have x12 := x1.trans x2
      have dx := db.same x12
      obtain ⟨ix, dpx⟩ := id dx
      refine ⟨_, rfl, rfl, _, rfl, ifT rfl ?_⟩
      refine ⟨_, rfl, ⟨_, rfl, ?_⟩⟩
      refine ⟨d, La, ix, 4, by decide, rfl, dpx, fun k2 v2 Hk hk2d' hv2k dk mk => ⟨small50 (by simp), fun L hL => ?_⟩⟩
      have x3 := same_new (o := .lst [v1, v2]) hL
      have dkq : DealQ Hk d La := ⟨ix, dk⟩
      have dc := dkq.same x3
      have nc := ((nb.same x12).mvQ dx mk).same x3
      have mc := (mb.trans (DMv.same x12)).trans (mk.trans (DMv.same x3))
      have nLd := dk.fresh hL
      have gL : _ = some (HO.lst [v1, v2]) := upd_same (H := Hk) (a := L) (o := .lst [v1, v2])
      have hv1 := ((v1b.keep (sameTupK x12)).keep (dx.tupK mk)).keep (sameTupK x3)
      have hv2 := hv2k.keep (sameTupK x3)
      have hk2d : k2.dep ≤ 6 := by omega
      refine ⟨_, rfl, _, rfl, L, _, _, _, rfl, rfl, SqL.of gL, rfl, ⟨_, rfl, L, _, _, _, rfl, rfl, SqL.of gL, rfl, ⟨_, rfl, L, _, _, _, rfl, rfl, SqL.of gL, rfl, small50 (by simp), fun tp htp => ?_⟩⟩⟩
      have e1 := same_new (o := .tup [.str "pair", v1, v2]) htp
      refine ⟨small50 (by simp), fun l3 hl3 => ?_⟩
      have e2 := same_new (o := .lst [v2, .ref tp]) hl3
      have e12 := e1.trans e2
      have dA := dc.same e12
      have nA := nc.same e12
      refine ⟨_, rfl, _, _, rfl, rfl, l3, _, _, _, rfl, rfl, SqL.of upd_same, rfl, _, rfl, _, rfl, ?_⟩
      refine ⟨d, La, nd, f, N, (.pair k1 k2), (.ref tp), kvs, hf, hf2, rfl, dA, ⟨tp, v1, v2, rfl, e2 _ _ upd_same, hv1.keep (sameTupK e12), hv2.keep (sameTupK e12)⟩, by (show max k1.dep k2.dep + 1 + f ≤ 40; omega), nA, by omega, fun asked H4 t4 d4 m4 => ?_⟩
      have gL4 := m4 _ _ (e12 _ _ gL) nLd.1 nLd.2
      have mA := mc.trans ((DMv.same e12).trans m4)
      have k4 := (dA.tupK m4)
      have kA := sameTupK e12
      have v14 := (hv1.keep kA).keep k4
      have v24 := (hv2.keep kA).keep k4
      have n4 := nA.mvQ dA m4
      have w4 := hkw.keep (dq.tupK mA)
      refine ⟨small50 (by simp), fun C0 hC0 => ?_⟩
      have e5 := same_new (o := .lst []) hC0
      refine ⟨_, rfl, rfl, _, rfl, ifF rfl ?_⟩
      obtain ⟨C, hCe⟩ : ∃ C, C = C0 := ⟨_, rfl⟩
      obtain ⟨H6, hH6⟩ : ∃ H6, H6 = upd H4 C0 (.lst []) := ⟨_, rfl⟩
      have gL6 : H6 L = some (.lst [v1, v2]) := by rw [hH6]; exact e5 _ _ gL4
      have gC : H6 C = some (.lst []) := by rw [hH6, hCe]; exact upd_same
      have d6 : DealQ H6 d La := by rw [hH6]; exact d4.same e5
      have n6 : NamesD H6 nd kvs N := by rw [hH6]; exact n4.same e5
      have v16 : k1.At H6 v1 := by rw [hH6]; exact v14.keep (sameTupK e5)
      have v26 : k2.At H6 v2 := by rw [hH6]; exact v24.keep (sameTupK e5)
      have w6 : kw.At H6 wv := by rw [hH6]; exact w4.keep (sameTupK e5)
      have ta6 : Tm F0 H6 (f + 1) asked := by rw [hH6]; exact tm_same t4 e5
      have nCd : C ≠ d ∧ C ≠ La := by rw [hCe]; exact d4.fresh hC0
      have hCH : H C = none := dmv_none mA nCd (by rw [hCe]; exact hC0)
      have mH6 : DMv d La H H6 := by rw [hH6]; exact mA.trans (DMv.same e5)
      obtain ⟨ch, hche⟩ : ∃ ch : List V, ch = [] := ⟨_, rfl⟩
      have hch : ∀ v ∈ ch, ∃ c, Alt H6 (Tm F0 H6 (f + 1)) c v := fun v hv => by
        rw [hche] at hv
        cases hv
      have lch : ch.length ≤ 1 := by rw [hche]; simp
      rw [← hche] at gC
      rw [← hH6, ← hCe]
      -- inner, the last alternative
      have hnl := hn.len
      refine ⟨_, rfl, nd, kvs, rfl, .inl n6.at_, fun n2 hn2 => ?_⟩
      have e7 := same_new (o := .dK kvs) hn2
      have nn2 := d6.fresh hn2
      have nCn : C ≠ n2 := fun z => by rw [z, hn2] at gC; cases gC
      refine ⟨_, rfl, .inr (.inr (.inl ⟨rfl, .inl ⟨_, upd_same⟩⟩)), fun dd hdd => ?_⟩
      have e8 := same_new (o := .dK []) hdd
      have nd2 : n2 ≠ dd := fun z => by rw [z, upd_same] at hdd; cases hdd
      have e78 := e7.trans e8
      refine ⟨_, rfl, _, rfl, L, _, _, _, rfl, rfl, SqL.of (e78 _ _ gL6), rfl, ⟨_, rfl, _, rfl, L, _, _, _, rfl, rfl, SqL.of (e78 _ _ gL6), rfl, upd_same, [(.inr first, v1), (.inr last, v2)], rfl, by simp, ?_⟩⟩
      have lm := length_mergeK [((.inr first : Key), v1), (.inr last, v2)] []
      refine ⟨n2, dd, kvs, _, rfl, rfl, nd2, by rw [upd_ne nd2]; exact e8 _ _ upd_same, upd_same, by rw [sizeLine_eq]; simp only [List.length_nil, List.length_cons] at lm; omega, ?_⟩
      obtain ⟨G, hG⟩ : ∃ G, G = upd (upd (upd (upd H6 n2 (.dK kvs)) dd (.dK [])) dd (.dK (mergeK [] [((.inr first : Key), v1), (.inr last, v2)]))) n2 (.dK (mergeK kvs (mergeK [] [((.inr first : Key), v1), (.inr last, v2)]))) := ⟨_, rfl⟩
      have ddf : H6 dd = none := by rw [upd_ne nd2.symm] at hdd; exact hdd
      have sG : Same H6 G := fun b o e => by
        rw [hG, upd_ne (ne_of_none e hn2), upd_ne (ne_of_none e ddf)]
        exact e78 _ _ e
      have gn : G n2 = some (.dK (mergeK kvs (mergeK [] [((.inr first : Key), v1), (.inr last, v2)]))) := by rw [hG]; exact upd_same
      rw [← hG]
      have kG := sameTupK sG
      have dG := d6.same sG
      have nG : NamesD G n2 (mergeK kvs (mergeK [] [((.inr first : Key), v1), (.inr last, v2)])) (N + 2) := ⟨gn, by have := length_mergeK (mergeK [] [((.inr first : Key), v1), (.inr last, v2)]) kvs; simp only [List.length_nil, List.length_cons] at lm; omega, fun z hz => by
        rcases mergeK_mem hz with h | ⟨y, hy, h1, h2⟩
        · obtain ⟨x', k', h1, h2, h3⟩ := n6.vals z h
          exact ⟨x', k', h1, h2.keep kG, h3⟩
        · rcases mergeK_mem hy with h | ⟨y', hy', h3, h4⟩
          · cases h
          · simp only [List.mem_cons, List.not_mem_nil, or_false] at hy'
            rcases hy' with rfl | rfl
            · exact ⟨first, k1, by rw [← h2, ← h4], by rw [← h1, ← h3]; exact v16.keep kG, by omega⟩
            · exact ⟨last, k2, by rw [← h2, ← h4], by rw [← h1, ← h3]; exact v26.keep kG, by omega⟩⟩
      refine ⟨_, rfl, .inl ⟨rfl, _, SqL.of (sG _ _ gC)⟩, small50 (by simp), fun l4 hl4 => ?_⟩
      have e9 := same_new (o := .lst [.str "Cons", .str "Pair"]) hl4
      refine ⟨_, rfl, _, _, rfl, rfl, l4, _, _, _, rfl, rfl, SqL.of upd_same, rfl, _, rfl, _, rfl, small50 (by simp), fun tn htn => ?_⟩
      have e10 := same_new (o := .tup [.str first, .str last]) htn
      have sG2 := e9.trans e10
      refine ⟨_, rfl, _, rfl, _, rfl, _, rfl, ?_⟩
      have w10 := ((w6.keep kG).keep (sameTupK sG2))
      refine ⟨d, La, n2, f, N + 2, kw, wv, _, hf, hf2, rfl, dG.same sG2, w10, hkd, nG.same sG2, by omega, fun v8 H8 t8 d8 m8 => ?_⟩
      have k8 := (dG.same sG2).tupK m8
      refine ⟨small50 (by simp), fun u hu => ?_⟩
      have e11 := same_new (o := .tup [.str "Pair", .ref tn, v8]) hu
      have gC8 := e11 _ _ (m8 _ _ (sG2 _ _ (sG _ _ gC)) nCd.1 nCd.2)
      refine ⟨C, _, _, rfl, rfl, gC8, small9 (by omega), ?_⟩
      have st := sty_off (o := .lst (ch ++ [.ref u])) (.inl ⟨_, gC8⟩)
      have toG : TupK H6 (upd (upd H8 u (.tup [.str "Pair", .ref tn, v8])) C (.lst (ch ++ [.ref u]))) := fun b xs hb => st.1 _ _ (e11 _ _ (k8 _ _ ((sameTupK sG2) _ _ (kG _ _ hb))))
      refine ⟨_, rfl, _, rfl, C, _, rfl, .inl ⟨SqL.of upd_same, fun ta hta => ?_⟩⟩
      have e12 := same_new (o := .tup (ch ++ [.ref u])) hta
      refine ⟨small50 (by simp), fun r hr' => ?_⟩
      have e13 := same_new (o := .tup [.str "choose", asked, .ref ta]) hr'
      have e123 := e12.trans e13
      have k123 := sameTupK e123
      refine q _ _ ⟨r, _, rfl, upd_same, .choose asked ta (ch ++ [.ref u]) ((ta6.keep toG).keep k123) (e13 _ _ upd_same) (by rw [List.length_append]; simp; omega) (fun z hz => ?_)⟩ ?_ ?_
      · rcases List.mem_append.mp hz with h | h
        · obtain ⟨c', hc'⟩ := hch z h
          exact ⟨c', alt_same (alt_same hc' toG) k123⟩
        · rw [List.mem_singleton.mp h]
          exact ⟨_, u, tn, v8, [first, last], rfl, k123 _ _ (st.1 _ _ upd_same), k123 _ _ (st.1 _ _ (e11 _ _ (k8 _ _ upd_same))), ((tm_same t8 e11).keep st.1).keep k123⟩
      · exact ((d8.same e11).off nCd).same e123
      · exact (dmv_grow (mH6.trans ((DMv.same sG).trans ((DMv.same sG2).trans (m8.trans (DMv.same e11))))) hCH).trans (DMv.same e123)
end
end W83

namespace W83
open PySem PySem.Spec PyProof.Rows L2
abbrev N_L_term : List Str := ["_law_deal_here", "_law_want", "_law_names", "_law_fuel", "_law_way", "_law_arg", "_law_fun", "_law_one"]
abbrev P_L_term : List Str := ["_law_deal_here", "_law_want", "_law_names", "_law_fuel"]
theorem sc_L_term : FnScope N_L_term P_L_term d_L_term.scope := ⟨rfl, rfl, rfl, by decide +kernel, rfl, by decide +kernel, by decide +kernel⟩

section
variable {P : Program} {w : World} {K : PySem.W.Frag} {mg : Str → Option Value} {base : Heap}
theorem ok_term (T : Top K mg) : ∀ n : Nat, Keeps P w K mg base CX0 (2 * n + 8) d_L_term P_L_term (spTerm n)
  | 0 => by
    obtain ⟨fd, F, bd⟩ := T.f_L_term
    have no : ∀ vs H Q E, ¬ spTerm 0 vs H Q E := fun vs H Q E h => by
      obtain ⟨d, La, nd, f, N, kw, wv, kvs, hf, _⟩ := h
      omega
    exact ⟨fd, ⟨fun vs H Q E h => absurd h (no vs H Q E), fun A outer s H args us vs Q E _ _ _ _ h => absurd h (no vs H Q E)⟩, bd, F.kp⟩
  | n + 1 => by
    obtain ⟨fd, F, bd⟩ := T.f_L_term
    have ih : Keeps P w K mg base CX0 (2 * n + 5 + 3) d_L_term P_L_term (spTerm n) := ok_term T n
    obtain ⟨_, G_L_draw⟩ := ok_draw (P := P) (w := w) (base := base) T
    obtain ⟨_, G_L_leaf⟩ := ok_leaf (P := P) (w := w) (base := base) T
    obtain ⟨_, G_L_kind⟩ := ok_kind (P := P) (w := w) (base := base) T 5
    obtain ⟨_, G_L_own⟩ := ok_own T n (2 * n + 5) ih
    obtain ⟨_, G_L_let⟩ := ok_let T n (2 * n + 5) (by omega) ih
    obtain ⟨_, G_L_choose⟩ := ok_choose T n (2 * n + 5) (by omega) ih
    obtain ⟨_, G_L_term⟩ := ih
    refine keeps0 (k := 2 * n + 9) F bd sc_L_term (fun vs H Q E h => ?_) (fun cdv AA outer sh H vs Q E hr h => ?_)
    · obtain ⟨d, La, nd, f, N, kw, wv, kvs, _, _, rfl, _⟩ := h
      rfl
    obtain ⟨d, La, nd, f, N, kw, wv, kvs, hf, hf2, rfl, dq, hkw, hkd, hn, hN, q⟩ := h
    refine ⟨_, (pss_cons (ps_set (i := 4) sc_L_term.nd rfl (Or.inl rfl) pe_int)
    (pss_cons (ps_if (PW.pt (pw_and (pt_cmpR op_gt (pv 3) pe_int (nomark _)) (pw_and1 (pt_cmpR op_gt (pe_dget (hu_of hr) (pv 0) pe_str (fun _ _ => rfl)) pe_int (nomark _)))))
    (pss_one (ps_set (i := 4) sc_L_term.nd rfl (Or.inl rfl) (pe_call G_L_draw.ok (hr.mono (by omega)) rfl T.g_law_draw G_L_draw.kp G_L_draw.bd .nil pass0 (pa_cons (pv 0) (pa_cons pe_int pa_nil)))))
    pss_nil)
    (pss_cons (ps_if (pt_cmpR op_eq (pv 4) pe_int (nomark _))
    (pss_one (ps_ret (pe_call G_L_leaf.ok (hr.mono (by omega)) rfl T.g_law_leaf G_L_leaf.kp G_L_leaf.bd .nil pass0 (pa_cons (pv 0) (pa_cons (pv 1) (pa_cons (pv 2) pa_nil))))))
    pss_nil)
    (pss_cons (ps_dput (hu_of hr) (pv 0) pe_str (pe_op op_sub (pe_dget (hu_of hr) (pv 0) pe_str (fun _ _ => rfl)) pe_int) rfl)
    (pss_cons (ps_if (PW.pt (pw_or (pt_cmpR op_lt (pv 4) pe_int (nomark _)) (pw_or1 (pt_cmpR op_eq (pv 4) pe_int (nomark _)))))
    (pss_one (ps_ret (pe_call G_L_own.ok (hr.mono (by omega)) rfl T.g_law_own G_L_own.kp G_L_own.bd .nil pass0 (pa_cons (pv 0) (pa_cons (pv 1) (pa_cons (pv 2) (pa_cons (pe_op op_sub (pv 3) pe_int) pa_nil)))))))
    pss_nil)
    (pss_cons (ps_if (pt_cmpR op_eq (pv 4) pe_int (nomark _))
    (pss_cons (ps_set (i := 5) sc_L_term.nd rfl (Or.inl rfl) (pe_call G_L_kind.ok (hr.mono (by omega)) rfl T.g_law_kind G_L_kind.kp G_L_kind.bd .nil pass0 (pa_cons (pv 0) (pa_cons pe_int pa_nil))))
    (pss_cons (ps_set (i := 6) sc_L_term.nd rfl (Or.inl rfl) (pe_call G_L_term.ok (hr.mono (by omega)) rfl T.g_law_term G_L_term.kp G_L_term.bd .nil pass0 (pa_cons (pv 0) (pa_cons (pe_tup (pa_cons pe_str (pa_cons (pv 5) (pa_cons (pv 1) pa_nil)))) (pa_cons (pv 2) (pa_cons (pe_op op_sub (pv 3) pe_int) pa_nil))))))
    (pss_one (ps_ret (pe_tup (pa_cons pe_str (pa_cons (pv 6) (pa_cons (pe_call G_L_term.ok (hr.mono (by omega)) rfl T.g_law_term G_L_term.kp G_L_term.bd .nil pass0 (pa_cons (pv 0) (pa_cons (pv 5) (pa_cons (pv 2) (pa_cons (pe_op op_sub (pv 3) pe_int) pa_nil))))) pa_nil))))))))
    pss_nil)
    (pss_cons (ps_if (pt_cmpR op_eq (pv 4) pe_int (nomark _))
    (pss_one (ps_ret (pe_call G_L_let.ok (hr.mono (by omega)) rfl T.g_law_let G_L_let.kp G_L_let.bd .nil pass0 (pa_cons (pv 0) (pa_cons (pv 1) (pa_cons (pv 2) (pa_cons (pe_op op_sub (pv 3) pe_int) pa_nil)))))))
    pss_nil)
    (pss_cons (ps_if (pt_cmpR op_eq (pv 4) pe_int (nomark _))
    (pss_cons (ps_set (i := 7) sc_L_term.nd rfl (Or.inl rfl) (pe_call G_L_term.ok (hr.mono (by omega)) rfl T.g_law_term G_L_term.kp G_L_term.bd .nil pass0 (pa_cons (pv 0) (pa_cons (pe_call G_L_kind.ok (hr.mono (by omega)) rfl T.g_law_kind G_L_kind.kp G_L_kind.bd .nil pass0 (pa_cons (pv 0) (pa_cons pe_int pa_nil))) (pa_cons (pv 2) (pa_cons (pe_op op_sub (pv 3) pe_int) pa_nil))))))
    (pss_one (ps_ret (pe_tup (pa_cons pe_str (pa_cons (pv 7) (pa_cons (pe_call G_L_term.ok (hr.mono (by omega)) rfl T.g_law_term G_L_term.kp G_L_term.bd .nil pass0 (pa_cons (pv 0) (pa_cons (pv 1) (pa_cons (pv 2) (pa_cons (pe_op op_sub (pv 3) pe_int) pa_nil))))) pa_nil)))))))
    pss_nil)
    (pss_one (ps_ret (pe_call G_L_choose.ok (hr.mono (by omega)) rfl T.g_law_choose G_L_choose.kp G_L_choose.bd .nil pass0 (pa_cons (pv 0) (pa_cons (pv 4) (pa_cons (pv 1) (pa_cons (pv 2) (pa_cons (pe_op op_sub (pv 3) pe_int) pa_nil)))))))))))))))), ?_⟩
    obtain ⟨i, dp⟩ := id dq
    have dg : ∀ {G : Hp} {b : Bool} {s m j : Int}, G d = some (.dK (dkv b s m La j)) → DGet G d (.str "inner") (some (.int j)) := fun h => (show valV _ _ = _ from dk_inner) ▸ DGet.k (k := .inr "inner") h
    have leaf : ∀ (G : Hp) (j : Int), DealP G d La j → DMv d La H G → spLeaf [.ref d, wv, .ref nd] G Q E0 := fun G j dG mG => by
      refine ⟨d, La, nd, j, kw, wv, kvs, rfl, dG, hkw.keep (dq.tupK mG), by omega, ⟨(hn.mvQ dq mG).at_, by have := hn.len; omega, (hn.mvQ dq mG).vals⟩, fun v H' t d' m' => ?_⟩
      exact q v H' (t.up (by omega)) ⟨j, d'⟩ (mG.trans m')
    obtain ⟨b0, s0, n0, l0, g0, _⟩ := id dp
    refine ⟨_, rfl, _, _, rfl, rfl, _, rfl, ifB (fun hfp => ?_) (fun _ => ifF rfl ?_)⟩
    · refine ⟨_, rfl, d, .int i, rfl, dg g0, _, _, rfl, rfl, _, rfl, ifB (fun _ => ?_) (fun _ => ?_)⟩
      · refine ⟨_, rfl, d, La, i, 10, rfl, dp, by decide, by decide, fun way H1 w0 w1 d1 m1 => ?_⟩
        have hf1 : 1 ≤ f := by
          have := of_decide_eq_true hfp
          omega
        have ef : ((f : Nat) : Int) - 1 = ((f - 1 : Nat) : Int) := by omega
        refine ⟨_, rfl, rfl, _, rfl, ifB (fun _ => ?_) (fun hw0 => ?_)⟩
        · exact ⟨_, rfl, _, rfl, _, rfl, leaf H1 i d1 m1⟩
        obtain ⟨b1, s1, n1, l1, g1, g2, g3⟩ := id d1
        refine ⟨_, rfl, d, .int i, rfl, dg g1, _, _, rfl, rfl, _, rfl, d, _, rfl, DPut.k (k := .inr "inner") g1 (small9 (by show 5 ≤ 100000; decide)), ?_⟩
        rw [dp_inner]
        obtain ⟨G, hG⟩ : ∃ G, G = upd H1 d (.dK (dkv b1 s1 n1 La (i - 1))) := ⟨_, rfl⟩
        have ndL : d ≠ La := fun z => by rw [z, g2] at g1; cases g1
        have dG : DealQ G d La := ⟨i - 1, b1, s1, n1, l1, by rw [hG]; exact upd_same, by rw [hG, upd_ne ndL.symm]; exact g2, g3⟩
        have mG : DMv d La H G := fun c u e n1 n2 => by
          rw [hG, upd_ne n1]
          exact m1 c u e n1 n2
        rw [← hG]
        have wG := hkw.keep (dq.tupK mG)
        have nG := hn.mvQ dq mG
        have sub : ∀ (v : V) (H' : Hp), Tm F0 H' (f - 1 + 2) v → DealQ H' d La → DMv d La G H' → Q v H' := fun v H' t d' m' => q v H' (t.up (by omega)) d' (mG.trans m')
        have arg : spOwn n [.ref d, wv, .ref nd, .int (((f : Nat) : Int) - 1)] G Q E0 := by
          rw [ef]
          exact ⟨d, La, nd, f - 1, N, kw, wv, kvs, by omega, by omega, rfl, dG, wG, by omega, nG, by omega, sub⟩
        refine ⟨_, rfl, _, _, rfl, rfl, _, rfl, ifB (fun _ => ?_) (fun hlt => ?_)⟩
        · exact ⟨_, rfl, _, rfl, _, rfl, _, rfl, _, _, rfl, rfl, arg⟩
        refine ⟨_, rfl, rfl, _, rfl, ifB (fun _ => ?_) (fun hw9 => ?_)⟩
        · exact ⟨_, rfl, _, rfl, _, rfl, _, rfl, _, _, rfl, rfl, arg⟩
        refine ⟨_, rfl, rfl, _, rfl, ifB (fun _ => ?_) (fun hw3 => ?_)⟩
        · obtain ⟨iG, dpG⟩ := id dG
          refine ⟨_, rfl, d, La, iG, 4, by decide, rfl, dpG, fun ka va H2 hka hat d2 m2 => ?_⟩
          have d2q : DealQ H2 d La := ⟨iG, d2⟩
          have w2 := wG.keep (dG.tupK m2)
          have n2 := nG.mvQ dG m2
          refine ⟨_, rfl, _, rfl, _, rfl, small50 (by simp), fun t ht => ?_⟩
          have e3 := same_new (o := .tup [.str "to", va, wv]) ht
          have k3 := sameTupK e3
          refine ⟨_, rfl, _, rfl, _, _, rfl, rfl, ?_⟩
          refine ⟨d, La, nd, f - 1, N, .to ka kw, .ref t, kvs, by omega, by omega, by rw [← ef]; rfl, d2q.same e3, ⟨t, va, wv, rfl, upd_same, hat.keep k3, w2.keep k3⟩, by show max ka.dep kw.dep + 1 + (f - 1) ≤ 40; omega, n2.same e3, by omega, fun fn H4 t4 d4 m4 => ?_⟩
          have k4 := (d2q.same e3).tupK m4
          refine ⟨_, rfl, _, rfl, _, rfl, _, rfl, _, rfl, _, _, rfl, rfl, ?_⟩
          refine ⟨d, La, nd, f - 1, N, ka, va, kvs, by omega, by omega, by rw [← ef]; rfl, d4, (hat.keep k3).keep k4, by omega, (n2.same e3).mvQ (d2q.same e3) m4, by omega, fun ar H5 t5 d5 m5 => ⟨small50 (by simp), fun r hr' => ?_⟩⟩
          have e6 := same_new (o := .tup [.str "call", fn, ar]) hr'
          exact sub _ _ ⟨r, _, rfl, upd_same, .call _ _ ((t4.keep (d4.tupK m5)).keep (sameTupK e6)) (tm_same t5 e6)⟩ (d5.same e6) (m2.trans ((DMv.same e3).trans (m4.trans (m5.trans (DMv.same e6)))))
        refine ⟨_, rfl, rfl, _, rfl, ifB (fun _ => ?_) (fun hw4 => ?_)⟩
        · exact ⟨_, rfl, _, rfl, _, rfl, _, rfl, _, _, rfl, rfl, arg⟩
        refine ⟨_, rfl, rfl, _, rfl, ifB (fun _ => ?_) (fun hw8 => ?_)⟩
        · obtain ⟨iG, dpG⟩ := id dG
          refine ⟨_, rfl, ⟨_, rfl, ?_⟩⟩
          refine ⟨d, La, iG, 4, by decide, rfl, dpG, fun ka va H2 hka hat d2 m2 => ?_⟩
          have d2q : DealQ H2 d La := ⟨iG, d2⟩
          have w2 := wG.keep (dG.tupK m2)
          have n2 := nG.mvQ dG m2
          refine ⟨_, rfl, _, rfl, _, _, rfl, rfl, ?_⟩
          refine ⟨d, La, nd, f - 1, N, ka, va, kvs, by omega, by omega, by rw [← ef]; rfl, d2q, hat, by omega, n2, by omega, fun on H4 t4 d4 m4 => ?_⟩
          refine ⟨_, rfl, _, rfl, _, rfl, _, rfl, _, rfl, _, _, rfl, rfl, ?_⟩
          refine ⟨d, La, nd, f - 1, N, kw, wv, kvs, by omega, by omega, by rw [← ef]; rfl, d4, w2.keep (d2q.tupK m4), by omega, n2.mvQ d2q m4, by omega, fun ar H5 t5 d5 m5 => ⟨small50 (by simp), fun r hr' => ?_⟩⟩
          have e6 := same_new (o := .tup [.str "first", on, ar]) hr'
          exact sub _ _ ⟨r, _, rfl, upd_same, .first _ _ ((t4.keep (d4.tupK m5)).keep (sameTupK e6)) (tm_same t5 e6)⟩ (d5.same e6) (m2.trans (m4.trans (m5.trans (DMv.same e6))))
        have hway : way = 5 ∨ way = 6 ∨ way = 7 := by
          have c : ∀ z : Int, decide (V.int way = V.int z) = false → way ≠ z := fun z h e => of_decide_eq_false h (by rw [e])
          have c0 := c 0 hw0
          have c3 := c 3 hw3
          have c4 := c 4 hw4
          have c8 := c 8 hw8
          have c9 := c 9 hw9
          have c3' := of_decide_eq_false hlt
          omega
        refine ⟨_, rfl, _, rfl, _, rfl, _, rfl, _, rfl, _, _, rfl, rfl, ?_⟩
        exact ⟨d, La, nd, f - 1, N, kw, wv, kvs, way, by omega, by omega, by rw [← ef]; rfl, hway, dG, wG, by omega, nG, by omega, sub⟩
      · exact ⟨_, rfl, rfl, _, rfl, ifT rfl ⟨_, rfl, _, rfl, _, rfl, leaf H i dp (DMv.refl H)⟩⟩
    · exact ⟨_, rfl, rfl, _, rfl, ifT rfl ⟨_, rfl, _, rfl, _, rfl, leaf H i dp (DMv.refl H)⟩⟩
end
end W83

namespace W83
open PySem PySem.Spec PyProof.Rows L2
abbrev N_law : List Str := ["_law_script", "_law_bounds", "_law_deal_here", "_law_deep", "_law_most", "_law_term_here", "_law_word", "_law_what", "_law_counts", "_law_log", "_law_kept"]
abbrev P_law : List Str := ["_law_script"]
theorem sc_law : FnScope N_law P_law d_law.scope := ⟨rfl, rfl, rfl, by decide +kernel, rfl, by decide +kernel, by decide +kernel⟩

def spLaw (K : PySem.W.Frag) : Sp := fun vs H Q _ => ∃ (sa : Addr) (ss : List Int), vs = [.ref sa] ∧ SqL K H sa (ss.map V.int) ∧ ss.length ≤ 63 ∧ ∀ H', Q (.bl true) H'
section
variable {P : Program} {w : World} {K : PySem.W.Frag} {mg : Str → Option Value} {base : Heap}
theorem paired_refs {K : PySem.W.Frag} {H : Hp} : ∀ (vs : List V), (∀ v ∈ vs, ∃ a, v = .ref a) → PySem.Paired (EqV K H 2) vs vs
  | [], _ => .nil
  | v :: vs, h => .cons (by
      obtain ⟨a, e⟩ := h v List.mem_cons_self
      exact .inr (.inl ⟨a, e, e⟩)) (paired_refs vs fun u hu => h u (List.mem_cons_of_mem _ hu))
theorem go0 {k : Nat} {d : He.DefD} {N ps : List Str} {sp : Sp} {fd : FuncData} (F : FunD K d.name d.qual d.params d.body d.scope (d.dvs K) (d.kws K) (He.fAd K d.at_) fd)
    (bd : Binds K fd ps []) (S : FnScope N ps d.scope) (len : ∀ vs H Q E, sp vs H Q E → vs.length = ps.length)
    (hbody : ∀ (cdv : Value) (A : Around) (outer : List Env) (s : Shared) (H : Hp) (vs : List V) (Q : VK) (E : XK), Room k (A.deeper (envOfC d.qual d.scope s.heap.objs.size (He.fAd K d.at_) cdv)) → sp vs H Q E →
      ∃ t, PSs (cxOf CX0 P w K mg base N d.qual d.scope (He.fAd K d.at_) cdv A outer s H E).nox d.body t ∧ t { nx := fun _ H' => Q .non H', rt := Q } (start N vs) H) : GO P w K mg base CX0 (k + 1) d ps sp fd :=
  ⟨FunD.ok F S len fun cdv A outer s H vs Q E hr h => by
    obtain ⟨t, h1, h2⟩ := hbody cdv A outer s H vs Q E hr h
    exact ⟨t, h1.nox, h2⟩, bd, F.kp⟩
theorem ok_law (T : Top K mg) {fd : FuncData} (F : FunD K d_law.name d_law.qual d_law.params d_law.body d_law.scope (d_law.dvs K) (d_law.kws K) (He.fAd K d_law.at_) fd) (bd : Binds K fd P_law []) : GO P w K mg base CX0 34 d_law P_law (spLaw K) fd := by
  obtain ⟨_, G_L_cells⟩ := ok_cells (P := P) (w := w) (base := base) T
  obtain ⟨_, G_L_deal⟩ := ok_deal (P := P) (w := w) (base := base) T
  obtain ⟨_, G_L_draw⟩ := ok_draw (P := P) (w := w) (base := base) T
  obtain ⟨_, G_L_graph⟩ := ok_graph (P := P) (w := w) (base := base) T
  obtain ⟨_, G_L_kind⟩ := ok_kind (P := P) (w := w) (base := base) T 5
  obtain ⟨_, G_L_term⟩ := ok_term (P := P) (w := w) (base := base) T 12
  obtain ⟨_, G_run⟩ := ok_run (P := P) (w := w) (base := base) T 12
  obtain ⟨_, G_L_all_there⟩ := ok_all_there (P := P) (w := w) (base := base) T
  obtain ⟨_, G_L_spans⟩ := ok_spans (P := P) (w := w) (base := base) T
  obtain ⟨_, G_L_open⟩ := ok_open (P := P) (w := w) (base := base) T
  obtain ⟨_, G_wants⟩ := ok_wants (P := P) (w := w) (base := base) T
  refine go0 (k := 33) F bd sc_law (fun vs H Q E h => ?_) (fun cdv AA outer sh H vs Q E hr h => ?_)
  · obtain ⟨sa, ss, rfl, _⟩ := h
    rfl
  obtain ⟨sa, ss, rfl, hs, hl, q⟩ := h
  refine ⟨_, (pss_cons (ps_set (i := 1) sc_law.nd rfl (Or.inl rfl) (pe_ix ix_list (pe_call G_L_cells.ok (hr.mono (by omega)) rfl T.g_law_cells G_L_cells.kp G_L_cells.bd .nil pass0 (pa_cons (pv 0) (pa_cons pe_int (pa_cons pe_int pa_nil)))) pe_int (fun _ _ => rfl)))
    (pss_cons (ps_set (i := 2) sc_law.nd rfl (Or.inl rfl) (pe_call G_L_deal.ok (hr.mono (by omega)) rfl T.g_law_deal G_L_deal.kp G_L_deal.bd .nil pass0 (pa_cons (pe_slice sl_list (pv 0) (po_some pe_int) (po_some pe_int)) (pa_cons pe_bl pa_nil))))
    (pss_cons (ps_set (i := 3) sc_law.nd rfl (Or.inl rfl) (pe_call G_L_draw.ok (hr.mono (by omega)) rfl T.g_law_draw G_L_draw.kp G_L_draw.bd .nil pass0 (pa_cons (pv 2) (pa_cons pe_int pa_nil))))
    (pss_cons (ps_set (i := 4) sc_law.nd rfl (Or.inl rfl) (pe_call G_L_draw.ok (hr.mono (by omega)) rfl T.g_law_draw G_L_draw.kp G_L_draw.bd .nil pass0 (pa_cons (pv 2) (pa_cons pe_int pa_nil))))
    (pss_cons (ps_if (pt_cmpR op_eq (pe_op op_mod (pv 1) pe_int) pe_int (nomark _))
    (pss_cons (ps_set (i := 3) sc_law.nd rfl (Or.inl rfl) (pe_op op_mod (pe_op op_fdiv (pv 1) pe_int) pe_int))
    (pss_cons (ps_set (i := 4) sc_law.nd rfl (Or.inl rfl) (pe_op op_mod (pe_op op_fdiv (pv 1) pe_int) pe_int))
    (pss_one (ps_set (i := 5) sc_law.nd rfl (Or.inl rfl) (pe_call G_L_graph.ok (hr.mono (by omega)) rfl T.g_law_graph G_L_graph.kp G_L_graph.bd .nil pass0 (pa_cons (pe_call G_L_cells.ok (hr.mono (by omega)) rfl T.g_law_cells G_L_cells.kp G_L_cells.bd .nil pass0 (pa_cons (pv 0) (pa_cons pe_int (pa_cons (pe_op op_add pe_int (pe_op op_mod (pe_op op_fdiv (pv 1) pe_int) pe_int)) pa_nil)))) pa_nil))))))
    (pss_one (ps_set (i := 5) sc_law.nd rfl (Or.inl rfl) (pe_call G_L_term.ok (hr.mono (by omega)) rfl T.g_law_term G_L_term.kp G_L_term.bd .nil pass0 (pa_cons (pv 2) (pa_cons (pe_call G_L_kind.ok (hr.mono (by omega)) rfl T.g_law_kind G_L_kind.kp G_L_kind.bd .nil pass0 (pa_cons (pv 2) (pa_cons pe_int pa_nil))) (pa_cons pe_dnewK (pa_cons pe_int pa_nil))))))))
    (pss_cons (ps_asg (pe_call G_run.ok (hr.mono (by omega)) rfl T.g_run G_run.kp G_run.bd .nil pass0 (pa_cons (pv 5) (pa_cons (pv 3) (pa_cons (pv 4) pa_nil)))) (pg_tup rfl (pgs_cons (pg_name (i := 6) sc_law.nd rfl (Or.inl rfl)) (pgs_cons (pg_name (i := 7) sc_law.nd rfl (Or.inl rfl)) (pgs_cons (pg_name (i := 8) sc_law.nd rfl (Or.inl rfl)) (pgs_cons (pg_name (i := 9) sc_law.nd rfl (Or.inl rfl)) pgs_nil))))))
    (pss_cons (ps_set (i := 10) sc_law.nd rfl (Or.inl rfl) (pe_callTy call_list_of (by rfl) T.z_list (by decide +kernel) (pa_cons (pv 9) pa_nil)))
    (pss_cons (ps_if (PW.pt (pw_or (pt_not (pt_val (pe_call G_L_all_there.ok (hr.mono (by omega)) rfl T.g_law_all_there G_L_all_there.kp G_L_all_there.bd .nil pass0 (pa_cons (pv 9) pa_nil)))) (pw_or1 (pt_not (pt_val (pe_call G_L_spans.ok (hr.mono (by omega)) rfl T.g_law_spans G_L_spans.kp G_L_spans.bd .nil pass0 (pa_cons (pv 9) pa_nil)))))))
    (pss_one (ps_ret pe_bl))
    pss_nil)
    (pss_one (ps_ret (pe_and (pe_call G_L_open.ok (hr.mono (by omega)) rfl T.g_law_open G_L_open.kp G_L_open.bd .nil pass0 (pa_cons (pe_call G_wants.ok (hr.mono (by omega)) rfl T.g_wants G_wants.kp G_wants.bd .nil pass0 (pa_cons (pv 9) pa_nil)) (pa_cons (pv 6) (pa_cons (pv 7) pa_nil)))) (pe_one (pe_cmpR (op_eqV hr.units) (pv 9) (pv 10) (nomark _)))))))))))))), ?_⟩
  refine ⟨_, rfl, ⟨sa, ss, 0, 1, rfl, hs, by omega, by decide, by decide, fun r1 cs1 H1 s1 g1 l1 => ?_⟩⟩
  obtain ⟨c0, ec0⟩ : ∃ c0, cs1[0]? = some c0 := ⟨_, List.getElem?_eq_getElem (by omega)⟩
  refine ⟨r1, _, _, .int c0, rfl, rfl, SqL.of g1, at_get (i := 0) (by rw [List.getElem?_map, ec0]; rfl), ?_⟩
  have hs1 := sameL s1 hs
  refine ⟨_, rfl, _, rfl, _, rfl, sa, _, rfl, hs1, fun p1 hp1 => ?_⟩
  obtain ⟨cs2, ecs2⟩ := cut_ints ss (some 1) (some 63)
  have e1 := same_new (o := .lst (cutV (ss.map V.int) (some 1) (some 63))) hp1
  have lcs2 : cs2.length ≤ 63 := by
    have := cutV_length (ss.map V.int) (some 1) (some 63)
    rw [ecs2, List.length_map, List.length_map] at this
    omega
  refine ⟨p1, cs2, false, rfl, by rw [upd_same, ecs2], by omega, fun d La H2 s2 hdn hLn dp => ?_⟩
  have hs2 := sameL (e1.trans s2) hs1
  refine ⟨_, rfl, d, La, 40, 12, rfl, dp, by decide, by decide, fun deep H3 _ _ d3 m3 => ?_⟩
  refine ⟨_, rfl, d, La, 40, 151, rfl, d3, by decide, by decide, fun most H4 mo0 mo1 d4 m4 => ?_⟩
  have hs4 : SqL K H4 sa (ss.map V.int) := by
    have mv : ∀ o, (upd H1 p1 (.lst (cutV (ss.map V.int) (some 1) (some 63)))) sa = some o → H4 sa = some o := fun o e =>
      m4 _ _ (m3 _ _ (s2 _ _ e) (ne_of_none e hdn) (ne_of_none e hLn)) (ne_of_none e hdn) (ne_of_none e hLn)
    rcases sameL e1 hs1 with (h | ⟨o, h⟩) | h
    · exact .inl (.inl (mv _ h))
    · exact .inl (.inr ⟨o, mv _ h⟩)
    · exact .inr h
  refine ⟨_, rfl, _, _, rfl, rfl, (by decide : (0 : Int) < 2), rfl, _, rfl, ifB (fun _ => ?_) (fun _ => ?_)⟩
  · refine ⟨_, rfl, _, _, rfl, rfl, ⟨by decide, by decide⟩, _, _, rfl, rfl, (by decide : (0 : Int) < 12), ?_⟩
    refine ⟨_, rfl, _, _, rfl, rfl, ⟨by decide, by decide⟩, _, _, rfl, rfl, (by decide : (0 : Int) < 151), ?_⟩
    have hmost : c0 / 24 % 151 ≤ 1000 := by
      have := Int.emod_lt_of_pos (c0 / 24) (by decide : (0 : Int) < 151)
      omega
    have z0 : 0 ≤ c0 / 7 % 7 := Int.emod_nonneg _ (by decide)
    have z1 : c0 / 7 % 7 < 7 := Int.emod_lt_of_pos _ (by decide)
    obtain ⟨m, hm⟩ : ∃ m : Nat, ((m : Nat) : Int) = 15 + c0 / 7 % 7 := ⟨(15 + c0 / 7 % 7).toNat, Int.toNat_of_nonneg (by omega)⟩
    refine ⟨_, rfl, _, rfl, _, _, rfl, rfl, ⟨by decide, by decide⟩, _, _, rfl, rfl, (by decide : (0 : Int) < 7), _, _, rfl, rfl, ?_⟩
    refine ⟨sa, ss, 1, m, by rw [hm]; rfl, hs4, by omega, by omega, by decide, fun r5 cs5 H5 s5 g5 l5 => ?_⟩
    refine ⟨r5, cs5, rfl, ⟨g5, by omega⟩, by omega, fun v H6 s6 tv => ?_⟩
    refine ⟨_, rfl, _, rfl, _, rfl, _, _, _, rfl, tv, hmost, fun r L c word wv Ho S t hr' ho => ?_⟩
    refine ⟨r, _, rfl, SqT.of hr', rfl, _, _, rfl, _, _, rfl, _, _, rfl, _, _, rfl, rfl, ?_⟩
    refine ⟨_, rfl, L, _, rfl, .inl (SqL.of ho.log), fun Lk hLk => ?_⟩
    have e1 := same_new (o := .lst S.logv) hLk
    have hlog : LogAt Ho L S.logv S.log S.labels t := ⟨ho.log, ho.rows, ho.good, by have := ho.len; omega⟩
    have hlog1 := hlog.same e1
    refine ⟨_, rfl, L, S.logv, S.log, S.labels, t, rfl, hlog1, fun H2 s2 => ⟨_, rfl, ifF rfl ?_⟩⟩
    refine ⟨_, rfl, L, S.logv, S.log, S.labels, t, rfl, hlog1.same s2, fun H3 s3 => ⟨_, rfl, ifF rfl ?_⟩⟩
    have s13 := e1.trans (s2.trans s3)
    refine ⟨_, rfl, L, S.logv, S.log, S.labels, t, rfl, hlog.same s13, fun R rv H4 s4 gR hrv => ?_⟩
    have s14 := s13.trans s4
    refine ⟨_, rfl, _, rfl, R, rv, S.log, S.labels, t, word, wv, rfl, gR, hrv, ho.good, hlog.len, ho.told, fun e => ?_, fun H5 s5 => ⟨_, rfl, ifT rfl ?_⟩⟩
    · obtain ⟨q', eq, ls, i, h1, h2, h3⟩ := ho.ring e
      exact ⟨q', ls, i, eq, s14 _ _ h1, h2, h3⟩
    · have s15 := s14.trans s5
      have gk : H5 Lk = some (.lst S.logv) := (s2.trans (s3.trans (s4.trans s5))) _ _ upd_same
      refine ⟨_, rfl, _, rfl, 2, by decide, .inl ⟨L, Lk, _, _, rfl, rfl, SqL.of (s15 _ _ ho.log), SqL.of gk, paired_refs _ fun v hv => ?_⟩, q _⟩
      obtain ⟨j, hj⟩ := List.mem_iff_getElem?.mp hv
      obtain ⟨_, a, _, e, _⟩ := ho.rows.get hj
      exact ⟨a, e⟩
  · refine ⟨_, rfl, ⟨_, rfl, ?_⟩⟩
    refine ⟨d, La, 40, 4, by decide, rfl, d4, fun kw wv H5 hkd hkw d5 m5 => ?_⟩
    intro n hn
    have e6 := same_new (o := .dK []) hn
    have d5q : DealQ H5 d La := ⟨40, d5⟩
    have hmost : most ≤ 1000 := by omega
    refine ⟨d, La, n, 11, 0, kw, wv, [], by decide, by decide, rfl, d5q.same e6, hkw.keep (sameTupK e6), by omega, ⟨upd_same, Nat.le_refl _, fun z hz => by cases hz⟩, by decide, fun v H6 tv _ _ => ?_⟩
    refine ⟨_, rfl, _, rfl, _, rfl, _, _, _, rfl, tv, hmost, fun r L c word wv Ho S t hr' ho => ?_⟩
    refine ⟨r, _, rfl, SqT.of hr', rfl, _, _, rfl, _, _, rfl, _, _, rfl, _, _, rfl, rfl, ?_⟩
    refine ⟨_, rfl, L, _, rfl, .inl (SqL.of ho.log), fun Lk hLk => ?_⟩
    have e1 := same_new (o := .lst S.logv) hLk
    have hlog : LogAt Ho L S.logv S.log S.labels t := ⟨ho.log, ho.rows, ho.good, by have := ho.len; omega⟩
    have hlog1 := hlog.same e1
    refine ⟨_, rfl, L, S.logv, S.log, S.labels, t, rfl, hlog1, fun H2 s2 => ⟨_, rfl, ifF rfl ?_⟩⟩
    refine ⟨_, rfl, L, S.logv, S.log, S.labels, t, rfl, hlog1.same s2, fun H3 s3 => ⟨_, rfl, ifF rfl ?_⟩⟩
    have s13 := e1.trans (s2.trans s3)
    refine ⟨_, rfl, L, S.logv, S.log, S.labels, t, rfl, hlog.same s13, fun R rv H4 s4 gR hrv => ?_⟩
    have s14 := s13.trans s4
    refine ⟨_, rfl, _, rfl, R, rv, S.log, S.labels, t, word, wv, rfl, gR, hrv, ho.good, hlog.len, ho.told, fun e => ?_, fun H5 s5 => ⟨_, rfl, ifT rfl ?_⟩⟩
    · obtain ⟨q', eq, ls, i, h1, h2, h3⟩ := ho.ring e
      exact ⟨q', ls, i, eq, s14 _ _ h1, h2, h3⟩
    · have s15 := s14.trans s5
      have gk : H5 Lk = some (.lst S.logv) := (s2.trans (s3.trans (s4.trans s5))) _ _ upd_same
      refine ⟨_, rfl, _, rfl, 2, by decide, .inl ⟨L, Lk, _, _, rfl, rfl, SqL.of (s15 _ _ ho.log), SqL.of gk, paired_refs _ fun v hv => ?_⟩, q _⟩
      obtain ⟨j, hj⟩ := List.mem_iff_getElem?.mp hv
      obtain ⟨_, a, _, e, _⟩ := ho.rows.get hj
      exact ⟨a, e⟩
end
end W83

namespace W83
open PySem PySem.Spec PyProof.Rows L2
theorem facts {P : Program} {w : World} {K : PySem.W.Frag} {h : Heap} {mg : Str → Option Value} {f : Addr} (X : K.In h) (G : h.Ns mainGlobals mg) (hfa : mg ("law" : Str) = some (.ref f)) (c : He.SaysD fas fns K) (e : exB K = true) :
    ∃ fd : FuncData, (∀ (s : Shared) (v : Value), BindsTo s fd ⟨[v], []⟩ [("_law_script", v)]) ∧ ∀ base : Heap, K.In base → base.Ns mainGlobals mg → FnOk P w K mg base CX0 34 f fd ["_law_script"] (spLaw K) := by
  have T := obs_of X G c e
  obtain ⟨fd, F⟩ := c.def_ 55 (d := d_law) rfl
  have ga : f = He.fAd K d_law.at_ := by
    have z := hfa.symm.trans T.g_law
    cases z
    rfl
  subst ga
  have b := FunD.bindsA (ps := ["_law_script"]) F fun _ _ _ _ _ _ us hl => match us, hl with | [_], _ => rfl
  have bn : Binds K fd P_law [] := FunD.bindsN (ps := ["_law_script"]) F fun _ _ _ _ _ _ us hl => match us, hl with | [_], _ => rfl
  exact ⟨fd, fun s v => b s [v] rfl, fun base _ _ => (ok_law T F bn).ok⟩
end W83

open PySem PySem.W PySem.Calls PyProof.Rows
theorem PySem.Challenge.cw_idlegraph_k83_whole_spans_holds : PySem.Challenge.rw_idlegraph_k83_whole_spans.Holds := by
  w_on; o_law
  refine HandSHeadRun.head_any (r := OpenLaw.row PySem.Challenge.rw_idlegraph_k83_whole_spans) (q := view (OpenLaw.row PySem.Challenge.rw_idlegraph_k83_whole_spans).prog [64]) (H := W83.hkE) (ob := W83.obE) (M := 6000) (loose := W83.loo) (d := HandSHeadRun.topDef (OpenLaw.row PySem.Challenge.rw_idlegraph_k83_whole_spans).prog 64) (kwd := []) W83.obE_eq
    (by kernel_rfl) (fun s => by kernel_rfl) W83.runE (by kernel_rfl) (by kernel_rfl) (by kernel_rfl) (by rfl) (by first | assumption | decide +kernel) (by decide +kernel) ⟨rfl, rfl, rfl, rfl, rfl, by decide +kernel⟩ ?hw ?hc
  case hw => w_witness2
  case hc =>
    refine L2.walk_ofE (l := PySem.Challenge.rw_idlegraph_k83_whole_spans) (n := 63) (k := 34) (x := "_law_script") (CX := L2.CX0) rfl (by decide) (by kernel_rfl) ⟨rfl, by decide, by decide⟩ ?F (fun _ _ _ _ z => z)
    intro w mg fa h Y G hmg0
    obtain ⟨K, KX, c, e⟩ := Y
    have hmg : mg ("law" : PySem.Str) = some (.ref fa) := by
      have e : (HandSHeadRun.topDef (OpenLaw.row PySem.Challenge.rw_idlegraph_k83_whole_spans).prog 64).name = ("law" : PySem.Str) := by kernel_rfl
      rw [← e]
      exact hmg0
    obtain ⟨fd, hb, hF⟩ := W83.facts (P := (PySem.Challenge.rw_idlegraph_k83_whole_spans).prog) (w := w) KX G hmg c e
    exact ⟨K, fd, W83.spLaw K, KX, hb, fun H a ns hl _ hS => ⟨a, ns, rfl, hS, hl, fun _ => rfl⟩, hF⟩

