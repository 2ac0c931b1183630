import PyProof.Rows.All
import Wide.All
import OpenK.AllK
import Wide.FinOn
import HandS.Dict
import HandS.WordsDict
import HandS.WordsList
import HandS.ForMost
import HandS.ForExc
import HandS.Wide
import HandS.WideBits
import HandS.Defaults
import HandS.IsInst
import HandS.ExcIs
import HandS.Deep
import HandS.TupLe
import HandS.SortRule
import HandS.HotCalls
import HandS.SuiteRaise
import HandS.HeadHook4
import HandS.HeadEnd
import HandS.Head2
import PySem.Challenge.RW_midpile_k01_place_of_a_share
set_option Elab.async false
set_option linter.all false
set_option maxRecDepth 100000
set_option maxHeartbeats 8000000
/-! The mirror of a pile, and its mathematics. -/
namespace Mp
open PySem L2

abbrev T := Int × Int
/-- an entry: where the tuple stands, what it holds -/
abbrev En := Addr × T
abbrev Kvs := List (Key × V)
abbrev Sx := List En × Kvs

def lt2 (a b : T) : Bool := if a.1 = b.1 then decide (a.2 < b.2) else decide (a.1 < b.1)
def ah (t : Bool) (a b : T) : Bool := if t then lt2 b a else lt2 a b

theorem lt2_iff (a b : T) : lt2 a b = true ↔ a.1 < b.1 ∨ (a.1 = b.1 ∧ a.2 < b.2) := by
  unfold lt2
  split
  · rw [decide_eq_true_iff]; omega
  · rw [decide_eq_true_iff]; omega
theorem lt2_no (a b : T) : lt2 a b = false ↔ b.1 < a.1 ∨ (a.1 = b.1 ∧ b.2 ≤ a.2) := by
  rw [← Bool.not_eq_true, lt2_iff]; omega
theorem lt2_irr (a : T) : lt2 a a = false := (lt2_no a a).mpr (.inr ⟨rfl, Int.le_refl _⟩)
theorem lt2_asym {a b : T} (h : lt2 a b = true) : lt2 b a = false := by rw [lt2_iff] at h; rw [lt2_no]; omega
theorem lt2_ntr {a b c : T} (h : lt2 a b = false) (g : lt2 b c = false) : lt2 a c = false := by
  rw [lt2_no] at *; omega
theorem lt2_tri {a b : T} (h : lt2 a b = false) (g : lt2 b a = false) : a = b := by
  rw [lt2_no] at *
  exact Prod.ext (by omega) (by omega)
theorem ah_irr (t : Bool) (a : T) : ah t a a = false := by cases t <;> exact lt2_irr a
theorem ah_asym {t : Bool} {a b : T} (h : ah t a b = true) : ah t b a = false := by cases t <;> exact lt2_asym h
theorem ah_ntr {t : Bool} {a b c : T} (h : ah t a b = false) (g : ah t b c = false) : ah t a c = false := by
  cases t
  · exact lt2_ntr (a := a) (b := b) (c := c) h g
  · exact lt2_ntr (a := c) (b := b) (c := a) g h
theorem ah_tri {t : Bool} {a b : T} (h : ah t a b = false) (g : ah t b a = false) : a = b := by
  cases t
  · exact lt2_tri h g
  · exact lt2_tri g h

/-! ### lists by place -/
theorem gs {α : Type} {l : List α} {i j : Nat} {a : α} (h : i < l.length) : (l.set i a)[j]? = if j = i then some a else l[j]? := by
  rw [List.getElem?_set]
  by_cases e : i = j
  · subst e; simp [h]
  · rw [if_neg e, if_neg (Ne.symm e)]
theorem lt_of_get {α : Type} {l : List α} {i : Nat} {a : α} (h : l[i]? = some a) : i < l.length := (List.getElem?_eq_some_iff.mp h).1
theorem get_of_lt {α : Type} {l : List α} {i : Nat} (h : i < l.length) : ∃ a, l[i]? = some a := ⟨l[i], List.getElem?_eq_getElem h⟩
theorem mem_iff_get {α : Type} {l : List α} {a : α} : a ∈ l ↔ ∃ i : Nat, l[i]? = some a := List.mem_iff_getElem?
/-- two places swapped -/
theorem swap_perm {α : Type} {l : List α} {k q : Nat} {x y : α} (hk : k < l.length) (hq : l[q]? = some y) (ne : q ≠ k) : ((l.set k y).set q x).Perm (l.set k x) := by
  have h2 : q < (l.set k x).length := by rw [List.length_set]; exact lt_of_get hq
  have h3 : q < l.length := lt_of_get hq
  have e1 : (l.set k y).set q x = ((l.set k x).set k y).set q x := by rw [List.set_set]
  have e2 : (l.set k x)[k]'(by rw [List.length_set]; exact hk) = x := by simp
  have e3 : (l.set k x)[q]'h2 = y := by
    rw [List.getElem_set_ne (Ne.symm ne)]
    exact (List.getElem?_eq_some_iff.mp hq).2
  rw [e1]
  have p := List.set_set_perm (as := l.set k x) (i := k) (j := q) (by rw [List.length_set]; exact hk) h2
  rw [e2, e3] at p
  exact p

/-! ### the dict's keys -/
theorem mem_putK {kvs : Kvs} {k j : Key} {v : V} : j ∈ (putK kvs k v).map (·.1) ↔ j = k ∨ j ∈ kvs.map (·.1) := by
  unfold putK
  split
  · rename_i h
    have e : (kvs.map fun kv => if kv.1 = k then (kv.1, v) else kv).map (·.1) = kvs.map (·.1) := by
      rw [List.map_map]
      refine List.map_congr_left fun p _ => ?_
      show (if p.1 = k then (p.1, v) else p).1 = p.1
      split <;> rfl
    rw [e]
    refine ⟨.inr, fun h2 => h2.elim (fun z => ?_) id⟩
    subst z
    obtain ⟨p, hp, q⟩ := List.any_eq_true.mp h
    exact List.mem_map.mpr ⟨p, hp, of_decide_eq_true q⟩
  · rw [List.map_append, List.mem_append]
    simp only [List.map_cons, List.map_nil, List.mem_singleton]
    exact ⟨fun z => z.elim .inr .inl, fun z => z.elim .inr .inl⟩
theorem nd_put {kvs : Kvs} {k : Key} {v : V} (h : (kvs.map (·.1)).Nodup) : ((putK kvs k v).map (·.1)).Nodup := by
  unfold putK
  split
  · have e : (kvs.map fun kv => if kv.1 = k then (kv.1, v) else kv).map (·.1) = kvs.map (·.1) := by
      rw [List.map_map]
      refine List.map_congr_left fun p _ => ?_
      show (if p.1 = k then (p.1, v) else p).1 = p.1
      split <;> rfl
    rw [e]; exact h
  · rename_i h2
    rw [List.map_append]
    refine nd_snoc h fun m => h2 ?_
    obtain ⟨p, hp, q⟩ := List.mem_map.mp m
    exact List.any_eq_true.mpr ⟨p, hp, decide_eq_true q⟩
theorem len_putK (kvs : Kvs) (k : Key) (v : V) : (putK kvs k v).length ≤ kvs.length + 1 := by
  unfold putK
  split
  · rw [List.length_map]; omega
  · rw [List.length_append]; simp
theorem valV_iff {kvs : Kvs} {k : Key} : (∃ v, valV kvs k = some v) ↔ k ∈ kvs.map (·.1) := by
  constructor
  · rintro ⟨v, h⟩; exact valV_in h
  · intro h
    cases e : valV kvs k with
    | some v => exact ⟨v, rfl⟩
    | none => exact absurd h (valV_not e)
theorem valV_none_iff {kvs : Kvs} {k : Key} : valV kvs k = none ↔ k ∉ kvs.map (·.1) := by
  rw [← valV_iff]
  cases valV kvs k with
  | none => simp
  | some v => simp
theorem valV_drop (kvs : Kvs) (k j : Key) : valV (dropK kvs k) j = if j = k then none else valV kvs j := by
  induction kvs with
  | nil => simp [dropK, valV]
  | cons p r ih =>
    by_cases e : p.1 = k
    · rw [dropK_pos e, ih]
      by_cases z : j = k
      · rw [if_pos z, if_pos z]
      · rw [if_neg z, if_neg z, valV_neg (fun q => z (q.symm.trans e))]
    · rw [dropK_neg e]
      by_cases z : p.1 = j
      · rw [valV_pos z, valV_pos z, if_neg fun q => e (z.trans q)]
      · rw [valV_neg z, valV_neg z, ih]
theorem mem_dropK {kvs : Kvs} {k j : Key} : j ∈ (dropK kvs k).map (·.1) ↔ j ≠ k ∧ j ∈ kvs.map (·.1) := by
  rw [← valV_iff, valV_drop]
  by_cases e : j = k
  · rw [if_pos e]; simp [e]
  · rw [if_neg e, valV_iff]; simp [e]

/-! ### where agrees with things -/
structure Wf (es : List En) (kvs : Kvs) : Prop where
  nd : (es.map (·.2.2)).Nodup
  kn : (kvs.map (·.1)).Nodup
  ix : ∀ (i : Nat) (e : En), es[i]? = some e → valV kvs (Sum.inl e.2.2) = some (V.int i)
  ky : ∀ key ∈ kvs.map (·.1), ∃ e ∈ es, key = (Sum.inl e.2.2 : Key)
/-- .. but for the place k, where x is due -/
structure WfH (es : List En) (kvs : Kvs) (k : Nat) (x : En) : Prop where
  lt : k < es.length
  nd : ((es.set k x).map (·.2.2)).Nodup
  kn : (kvs.map (·.1)).Nodup
  ix : ∀ (i : Nat) (e : En), i ≠ k → es[i]? = some e → valV kvs (Sum.inl e.2.2) = some (V.int i)
  ky : ∀ key ∈ kvs.map (·.1), ∃ e ∈ es.set k x, key = (Sum.inl e.2.2 : Key)

theorem nd_ne {es : List En} (h : (es.map (·.2.2)).Nodup) {i j : Nat} {a b : En} (ha : es[i]? = some a) (hb : es[j]? = some b) (ne : i ≠ j) : a.2.2 ≠ b.2.2 := fun e =>
  ne (nd_ix h (x := a.2.2) (by rw [List.getElem?_map, ha]; rfl) (by rw [List.getElem?_map, hb, e]; rfl))
theorem nd_map : ∀ {l : List Int}, l.Nodup → (l.map (Sum.inl : Int → Key)).Nodup
  | [], _ => List.nodup_nil
  | a :: r, h => by
    obtain ⟨h1, h2⟩ := List.nodup_cons.mp h
    rw [List.map_cons]
    refine List.nodup_cons.mpr ⟨fun m => ?_, nd_map h2⟩
    obtain ⟨z, hz, q⟩ := List.mem_map.mp m
    exact h1 (Sum.inl.inj q ▸ hz)
theorem Wf.len {es : List En} {kvs : Kvs} (w : Wf es kvs) : kvs.length = es.length := by
  have p : (kvs.map (·.1)).Perm (es.map fun e => (Sum.inl e.2.2 : Key)) := by
    refine (List.perm_ext_iff_of_nodup w.kn ?_).mpr fun key => ⟨fun m => ?_, fun m => ?_⟩
    · have e : (es.map fun e => (Sum.inl e.2.2 : Key)) = (es.map (·.2.2)).map Sum.inl := by rw [List.map_map]; rfl
      rw [e]
      exact nd_map w.nd
    · obtain ⟨e, he, q⟩ := w.ky key m
      exact List.mem_map.mpr ⟨e, he, q.symm⟩
    · obtain ⟨e, he, q⟩ := List.mem_map.mp m
      obtain ⟨i, hi⟩ := mem_iff_get.mp he
      rw [← q]
      exact valV_in (w.ix i e hi)
  have := p.length_eq
  simpa using this
theorem Wf.find {es : List En} {kvs : Kvs} (w : Wf es kvs) {c : Int} {v : V} (h : valV kvs (Sum.inl c) = some v) : ∃ (i : Nat) (e : En), es[i]? = some e ∧ e.2.2 = c ∧ v = V.int i := by
  obtain ⟨e, he, q⟩ := w.ky _ (valV_in h)
  obtain ⟨i, hi⟩ := mem_iff_get.mp he
  have q := Sum.inl.inj q
  have z := w.ix i e hi
  rw [← q, h] at z
  exact ⟨i, e, hi, q.symm, Option.some.inj z⟩
theorem Wf.none {es : List En} {kvs : Kvs} (w : Wf es kvs) {c : Int} : valV kvs (Sum.inl c) = none ↔ ∀ e ∈ es, e.2.2 ≠ c := by
  rw [valV_none_iff]
  constructor
  · intro h e he z
    obtain ⟨i, hi⟩ := mem_iff_get.mp he
    exact h (z ▸ valV_in (w.ix i e hi))
  · intro h m
    obtain ⟨e, he, q⟩ := w.ky _ m
    exact h e he (Sum.inl.inj q).symm
/-- the hole moves from k to q -/
theorem WfH.move {es : List En} {kvs : Kvs} {k q : Nat} {x y : En} (w : WfH es kvs k x) (hq : es[q]? = some y) (ne : q ≠ k) : WfH (es.set k y) (putK kvs (Sum.inl y.2.2) (V.int k)) q x := by
  have p := swap_perm (x := x) w.lt hq ne
  have hlt := lt_of_get hq
  have dy : ∀ (i : Nat) (e : En), i ≠ k → i ≠ q → es[i]? = some e → e.2.2 ≠ y.2.2 := fun i e h1 h2 he =>
    nd_ne w.nd (i := i) (j := q) (by rw [gs w.lt, if_neg h1]; exact he) (by rw [gs w.lt, if_neg ne]; exact hq) h2
  refine ⟨by rw [List.length_set]; exact hlt, (p.map _).nodup_iff.mpr w.nd, nd_put w.kn, fun i e hi he => ?_, fun key m => ?_⟩
  · rw [gs w.lt] at he
    rw [valV_put]
    by_cases z : i = k
    · rw [if_pos z] at he
      cases he
      rw [if_pos rfl, z]
    · rw [if_neg z] at he
      rw [if_neg (fun h => dy i e z hi he (Sum.inl.inj h))]
      exact w.ix i e z he
  · rcases mem_putK.mp m with z | z
    · refine ⟨y, p.mem_iff.mpr ?_, z⟩
      exact mem_iff_get.mpr ⟨q, by rw [gs w.lt, if_neg ne]; exact hq⟩
    · obtain ⟨e, he, h⟩ := w.ky key z
      exact ⟨e, p.mem_iff.mpr he, h⟩
/-- x is laid -/
theorem WfH.lay {es : List En} {kvs : Kvs} {k : Nat} {x : En} (w : WfH es kvs k x) : Wf (es.set k x) (putK kvs (Sum.inl x.2.2) (V.int k)) := by
  refine ⟨w.nd, nd_put w.kn, fun i e he => ?_, fun key m => ?_⟩
  · rw [valV_put]
    have he' := he
    rw [gs w.lt] at he
    by_cases z : i = k
    · rw [if_pos z] at he
      cases he
      rw [if_pos rfl, z]
    · rw [if_neg z] at he
      rw [if_neg (fun h => nd_ne w.nd he' (j := k) (b := x) (by rw [gs w.lt, if_pos rfl]) z (Sum.inl.inj h))]
      exact w.ix i e z he
  · rcases mem_putK.mp m with z | z
    · exact ⟨x, mem_iff_get.mpr ⟨k, by rw [gs w.lt, if_pos rfl]⟩, z⟩
    · exact w.ky key z
/-- every place may be looked at as a hole for what stands there -/
theorem Wf.hole {es : List En} {kvs : Kvs} {k : Nat} {x : En} (w : Wf es kvs) (h : es[k]? = some x) : WfH es kvs k x := by
  have e : es.set k x = es := by
    refine List.ext_getElem? fun j => ?_
    rw [gs (lt_of_get h)]
    by_cases z : j = k
    · rw [if_pos z, z, h]
    · rw [if_neg z]
  exact ⟨lt_of_get h, by rw [e]; exact w.nd, w.kn, fun i e _ he => w.ix i e he, fun key m => by rw [e]; exact w.ky key m⟩

/-! ### the form -/
def Form (t : Bool) (es : List En) : Prop := ∀ (j : Nat) (a b : En), 1 ≤ j → es[j]? = some a → es[(j - 1) / 2]? = some b → ah t a.2 b.2 = false
/-- but for the edges at k -/
def FormX (t : Bool) (es : List En) (k : Nat) : Prop := ∀ (j : Nat) (a b : En), 1 ≤ j → j ≠ k → (j - 1) / 2 ≠ k → es[j]? = some a → es[(j - 1) / 2]? = some b → ah t a.2 b.2 = false
/-- the things below k aren't ahead of the one above k -/
def FormG (t : Bool) (es : List En) (k : Nat) : Prop := ∀ (j : Nat) (a b : En), 1 ≤ k → 1 ≤ j → (j - 1) / 2 = k → es[j]? = some a → es[(k - 1) / 2]? = some b → ah t a.2 b.2 = false
/-- the things below k aren't ahead of it -/
def FormD (t : Bool) (es : List En) (k : Nat) : Prop := ∀ (j : Nat) (a b : En), 1 ≤ j → (j - 1) / 2 = k → es[j]? = some a → es[k]? = some b → ah t a.2 b.2 = false
/-- the thing at k isn't ahead of the one above it -/
def FormU (t : Bool) (es : List En) (k : Nat) : Prop := ∀ (a b : En), 1 ≤ k → es[k]? = some a → es[(k - 1) / 2]? = some b → ah t a.2 b.2 = false
theorem form_of {t : Bool} {es : List En} {k : Nat} (hx : FormX t es k) (hd : FormD t es k) (hu : FormU t es k) : Form t es := fun j a b h1 ha hb => by
  by_cases e : j = k
  · subst e; exact hu a b h1 ha hb
  · by_cases e2 : (j - 1) / 2 = k
    · exact hd j a b h1 e2 ha (by rw [e2] at hb; exact hb)
    · exact hx j a b h1 e e2 ha hb
theorem Form.x {t : Bool} {es : List En} (f : Form t es) (k : Nat) : FormX t es k := fun j a b h1 _ _ ha hb => f j a b h1 ha hb
/-- a thing laid at k, in place of another: what is left of the form -/
theorem Form.lay {t : Bool} {es : List En} (f : Form t es) {k : Nat} {x : En} (hk : k < es.length) : FormX t (es.set k x) k ∧ FormG t (es.set k x) k := by
  constructor
  · intro j a b h1 h2 h3 ha hb
    rw [gs hk, if_neg h2] at ha
    rw [gs hk, if_neg h3] at hb
    exact f j a b h1 ha hb
  · intro j a b h1 h2 h3 ha hb
    rw [gs hk, if_neg (by omega)] at ha
    rw [gs hk, if_neg (by omega)] at hb
    obtain ⟨c, hc⟩ := get_of_lt hk
    exact ah_ntr (f j a c h2 ha (by rw [h3]; exact hc)) (f k c b h1 hc hb)
theorem form_nil (t : Bool) : Form t [] := fun j a b _ ha _ => by simp at ha
/-- the first is ahead of all -/
theorem Form.top {t : Bool} {es : List En} (f : Form t es) {x : En} (hx : es[0]? = some x) : ∀ (j : Nat) (a : En), es[j]? = some a → ah t a.2 x.2 = false := by
  intro j
  induction j using Nat.strongRecOn with
  | ind j ih =>
    intro a ha
    by_cases e : j = 0
    · subst e
      rw [hx] at ha; cases ha
      exact ah_irr t _
    · obtain ⟨b, hb⟩ := get_of_lt (l := es) (i := (j - 1) / 2) (by have := lt_of_get ha; omega)
      exact ah_ntr (f j a b (by omega) ha hb) (ih ((j - 1) / 2) (by omega) b hb)

/-! ### changed places -/
/-- outside the places P nothing has changed -/
def Out (o es : List En) (P : List Nat) : Prop := ∀ (i : Nat) (a b : En), i ∉ P → o[i]? = some a → es[i]? = some b → a.2 = b.2
/-- how many places hold another thing -/
def df (a b : List En) : Nat := (a.zip b).countP fun p => decide (p.1.2 ≠ p.2.2)
theorem df_self (a : List En) : df a a = 0 := by
  induction a with
  | nil => rfl
  | cons x r ih => simp [df, List.zip_cons_cons, List.countP_cons] at *; exact ih
theorem df_cons (x y : En) (a b : List En) : df (x :: a) (y :: b) = df a b + (if x.2 = y.2 then 0 else 1) := by
  unfold df
  rw [List.zip_cons_cons, List.countP_cons]
  by_cases e : x.2 = y.2 <;> simp [e]
theorem count_lt_mem (P : List Nat) : ∀ n, (List.range n).countP (fun i => decide (i ∈ P)) ≤ P.length := by
  induction P with
  | nil => intro n; simp
  | cons p r ih =>
    intro n
    have h1 : ∀ n, (List.range n).countP (fun i => decide (i ∈ p :: r)) ≤ (List.range n).countP (fun i => decide (i ∈ r)) + (if p < n then 1 else 0) := by
      intro n
      induction n with
      | zero => simp
      | succ n ihn =>
        rw [List.range_succ, List.countP_append, List.countP_append]
        simp only [List.countP_cons, List.countP_nil, Nat.zero_add, List.mem_cons, decide_eq_true_eq]
        by_cases e : n = p
        · subst e
          rw [if_pos (Or.inl rfl), if_pos (Nat.lt_succ_self _)]
          rw [if_neg (Nat.lt_irrefl _)] at ihn
          simp only [List.mem_cons, Nat.add_zero] at ihn
          omega
        · by_cases m : n ∈ r
          · rw [if_pos (Or.inr m), if_pos m]
            by_cases z : p < n
            · rw [if_pos z] at ihn; rw [if_pos (by omega)]; simp only [List.mem_cons] at ihn; omega
            · rw [if_neg z] at ihn; simp only [List.mem_cons] at ihn; omega
          · rw [if_neg (by simp [e, m]), if_neg m]
            by_cases z : p < n
            · rw [if_pos z] at ihn; rw [if_pos (by omega)]; simp only [List.mem_cons] at ihn; omega
            · rw [if_neg z] at ihn; simp only [List.mem_cons] at ihn; omega
    have h2 := h1 n
    have h3 := ih n
    rw [List.length_cons]
    split at h2 <;> omega
theorem df_range : ∀ (a b : List En), df a b = (List.range (min a.length b.length)).countP fun i => decide ((a.getD i default).2 ≠ (b.getD i default).2)
  | [], b => by simp [df]
  | _ :: _, [] => by simp [df]
  | x :: a, y :: b => by
    rw [df_cons, df_range a b]
    have e : min (x :: a).length (y :: b).length = min a.length b.length + 1 := by simp [Nat.succ_min_succ]
    rw [e, List.range_succ_eq_map, List.countP_cons, List.countP_map]
    congr 1
    by_cases z : x.2 = y.2 <;> simp [z]
theorem df_le {o es : List En} {P : List Nat} (h : Out o es P) : df o es ≤ P.length := by
  rw [df_range]
  refine Nat.le_trans (List.countP_mono_left fun i hi hq => ?_) (count_lt_mem P (min o.length es.length))
  refine decide_eq_true (Classical.byContradiction fun hn => ?_)
  have hi := List.mem_range.mp hi
  obtain ⟨a, ha⟩ := get_of_lt (l := o) (i := i) (by omega)
  obtain ⟨b, hb⟩ := get_of_lt (l := es) (i := i) (by omega)
  have q := of_decide_eq_true hq
  rw [List.getD_eq_getElem?_getD, List.getD_eq_getElem?_getD, ha, hb] at q
  exact q (h i a b hn ha hb)

/-! ### figures in twos -/
def bl (n : Nat) : Nat := if n = 0 then 0 else Nat.log2 n + 1
theorem bl_mono {n m : Nat} (h : n ≤ m) : bl n ≤ bl m := by
  unfold bl
  by_cases e : n = 0
  · rw [if_pos e]; omega
  · rw [if_neg e, if_neg (by omega)]
    have : n.log2 ≤ m.log2 := (Nat.le_log2 (by omega)).mpr (Nat.le_trans (Nat.log2_self_le e) h)
    omega
theorem log2_half {k : Nat} (h : 1 ≤ k) : ((k - 1) / 2 + 1).log2 + 1 = (k + 1).log2 := by
  have e : (k - 1) / 2 + 1 = (k + 1) / 2 := by omega
  rw [e]
  conv => rhs; rw [Nat.log2_def]
  rw [if_pos (by omega)]
theorem log2_lt_bl {k n : Nat} (h : k < n) : (k + 1).log2 + 1 ≤ bl n := by
  have := bl_mono (n := k + 1) (m := n) h
  unfold bl at this ⊢
  rw [if_neg (by omega)] at this
  exact this
end Mp

/-! The place of a share: what the program computes, and its mathematics. -/
namespace Mp
def BadS (p wh : Int) : Prop := wh < 1 ∨ p < 0 ∨ wh < p
def fullM (m p wh : Int) : Int := if 0 < m * p % wh then m * p / wh + 1 else m * p / wh
def placeM (m p wh : Int) : Int := if m = 0 then 0 else if 1 < fullM m p wh then fullM m p wh else 1
theorem full_spec {m p wh : Int} (h : 0 < wh) : (fullM m p wh - 1) * wh < m * p ∧ m * p ≤ fullM m p wh * wh := by
  unfold fullM
  have e := Int.mul_ediv_add_emod (m * p) wh
  have z1 := Int.emod_nonneg (m * p) (b := wh) (by omega)
  have z2 := Int.emod_lt_of_pos (m * p) h
  rw [Int.mul_comm] at e
  split
  · rw [Int.add_sub_cancel, Int.add_mul]
    omega
  · rw [Int.sub_mul]
    omega
theorem lt_of_mul {a b wh : Int} (h : 0 < wh) (g : a * wh < b * wh) : a < b := Int.lt_of_mul_lt_mul_right g (Int.le_of_lt h)
theorem place_spec {m p wh : Int} (hm : 0 < m) (h : ¬ BadS p wh) : 1 ≤ placeM m p wh ∧ placeM m p wh ≤ m ∧ m * p ≤ placeM m p wh * wh ∧ (placeM m p wh = 1 ∨ (placeM m p wh - 1) * wh < m * p) := by
  unfold BadS at h
  have h1 : 0 < wh := by omega
  obtain ⟨s1, s2⟩ := full_spec (m := m) (p := p) h1
  have hle : fullM m p wh ≤ m := by
    have k : m * p ≤ m * wh := Int.mul_le_mul_of_nonneg_left (by omega) (by omega)
    have := lt_of_mul h1 (Int.lt_of_lt_of_le s1 k)
    omega
  unfold placeM
  rw [if_neg (by omega)]
  split
  · exact ⟨by omega, hle, s2, .inr s1⟩
  · refine ⟨by omega, by omega, ?_, .inl rfl⟩
    have : fullM m p wh * wh ≤ 1 * wh := Int.mul_le_mul_of_nonneg_right (by omega) (by omega)
    omega
theorem place_uniq {m p wh k : Int} (hm : 0 < m) (h : ¬ BadS p wh) (k1 : 1 ≤ k) (k2 : m * p ≤ k * wh) (k3 : k = 1 ∨ (k - 1) * wh < m * p) : k = placeM m p wh := by
  obtain ⟨s1, s2, s3, s4⟩ := place_spec hm h
  have h1 : 0 < wh := by unfold BadS at h; omega
  have a : k ≤ placeM m p wh := by
    rcases k3 with k3 | k3
    · omega
    · have := lt_of_mul h1 (Int.lt_of_lt_of_le k3 s3)
      omega
  have b : placeM m p wh ≤ k := by
    rcases s4 with s4 | s4
    · omega
    · have := lt_of_mul h1 (Int.lt_of_lt_of_le s4 k2)
      omega
  omega
theorem place_zero (p wh : Int) : placeM 0 p wh = 0 := if_pos rfl
theorem place_nn {m p wh : Int} (hm : 0 ≤ m) (h : ¬ BadS p wh) : 0 ≤ placeM m p wh ∧ placeM m p wh ≤ m := by
  by_cases e : m = 0
  · subst e; rw [place_zero]; omega
  · obtain ⟨a, b, _, _⟩ := place_spec (m := m) (by omega) h
    omega
theorem place_succ {m p wh : Int} (hm : 0 ≤ m) (h : ¬ BadS p wh) : placeM m p wh ≤ placeM (m + 1) p wh ∧ placeM (m + 1) p wh ≤ placeM m p wh + 1 := by
  have h1 : 0 < wh := by unfold BadS at h; omega
  obtain ⟨t1, t2, t3, t4⟩ := place_spec (m := m + 1) (by omega) h
  by_cases e : m = 0
  · subst e; rw [place_zero]; omega
  · obtain ⟨s1, s2, s3, s4⟩ := place_spec (m := m) (by omega) h
    have hp : 0 ≤ p ∧ p ≤ wh := by unfold BadS at h; omega
    rw [Int.add_mul, Int.one_mul] at t3 t4
    constructor
    · rcases s4 with s4 | s4
      · omega
      · have : (placeM m p wh - 1) * wh < placeM (m + 1) p wh * wh := by omega
        have := lt_of_mul h1 this
        omega
    · rcases t4 with t4 | t4
      · omega
      · have e2 : (placeM m p wh + 1) * wh = placeM m p wh * wh + wh := by rw [Int.add_mul, Int.one_mul]
        have : (placeM (m + 1) p wh - 1) * wh < (placeM m p wh + 1) * wh := by omega
        have := lt_of_mul h1 this
        omega
end Mp

/-! Rules of our own over the hand layer. -/
namespace Mp
open PySem PySem.Spec PyProof.Rows L2

/-- a def that is called with all its arguments, in places -/
structure Fn (P : Program) (w : World) (K : PySem.W.Frag) (mg : Str → Option Value) (base : Heap) (k : Nat) (f : Addr) (ps : List Str) (sp : Sp) : Prop where
  ex : ∃ fd, FnOk P w K mg base (L2.CX P w) k f fd ps sp ∧ Binds K fd ps []
  kp : PySem.W.keepIn K (.ref f) = true
/-- nothing is let out -/
theorem nopass {X : Cx} {σ : L2.St} : PassesAt (L2.CX X.prog X.w) X σ E0 := fun _ H s e s' I c => (passL (X := X) (pins := []) (σ := σ) (H := H) (s := s)) |> fun _ => by
  obtain ⟨_, _, _, _, _, _, _, _, _, _, _, _, z⟩ := c
  exact z.elim
section
variable {X : Cx} {k j : Nat} {f C : Addr} {ps : List Str} {sp : Sp} {E : L2.St → XK} {x m : Str} {p pos apos : Pos} {e o : Expr} {es : List Expr} {ta : TE} {t : TA}
theorem pe_callF (F : Fn X.prog X.w X.K X.mg X.base k f ps sp) (hr : Room j X.A) (hm : X.mg x = some (.ref f)) (hx : ∀ σ, PassesAt (L2.CX X.prog X.w) X σ (E σ)) (ha : PA X (e :: es) t) (hk : k ≤ j := by decide) (hg : Gl X x := by rfl)
    (hdb : (x == ("__debug__" : Str)) = false := by decide) (he : starEach (e :: es) X.env = (false, eval e X.env) :: starEach es X.env := by rfl) (hpl : (backTo pos (starEach es X.env)).any (·.1) = false := by rfl) :
    PE X (.Call (.Name x p) (e :: es) [] pos) (tCallS sp E t) := by
  obtain ⟨fd, F1, hb⟩ := F.ex
  exact pe_callS F1 (hr.mono hk) hg hm F.kp hb hx ha hdb he hpl
/-- o.m(e, ..) whose exceptions are wished for at the slots -/
def tMethF (C : Addr) (m : Str) (sp : Sp) (E : L2.St → XK) (ta : TE) (t : TA) : TE := fun σ H Q => ta σ H fun x H1 => ∃ a dx fs, x = .ref a ∧ H1 a = some (.ins C dx fs) ∧ fs.lookup m = none ∧ t σ H1 fun vs H2 => sp (x :: vs) H2 Q (E σ)
theorem pe_methF {pl : Sem Bool} (he : PE X o ta) (c : Cls X.K C) (hm : Meth X.K C m f) (F : Fn X.prog X.w X.K X.mg X.base k f ps sp) (hr : Room j X.A) (hx : ∀ σ, PassesAt (L2.CX X.prog X.w) X σ (E σ)) (ha : PA X (e :: es) t) (hk : k ≤ j := by decide)
    (hst : starEach (e :: es) X.env = (false, eval e X.env) :: starEach es X.env := by rfl) (hpl : (backTo pos (starEach es X.env)).any (·.1) = false := by rfl)
    (ht : eval (.Call (.Attribute o m apos) (e :: es) [] pos) X.env = (do
      let ov ← eval o X.env
      standAt apos.atName
      let (f, first) ← holding [ov] (getMethod ov m pl)
      callWith pos f first (backTo pos (starEach (e :: es) X.env)) (backToKw pos (keywordEach [] X.env))) := by rfl) :
    PE X (.Call (.Attribute o m apos) (e :: es) [] pos) (tMethF C m sp E ta t) := by
  obtain ⟨fd, F1, hb⟩ := F.ex
  refine ⟨fun pins s σ H Q I h => ?_⟩
  refine PySem.W.methodCall_KW (pl := pl) (thn (he.run pins s σ H _ I h) fun u s1 ⟨x, H1, I1, rx, a, dx, fs, ex, ea, l, q⟩ => ?_) ht
  subst ex
  obtain rfl : u = Value.ref a := rx
  refine getmeth_ok I1 ea c hm l ?_
  refine PySem.W.callWith_K (first := [.ref a]) (h₀ := X.base) I.ok.mod.kin hm.kp (thn (ha.run pos pins s1 σ H1 _ I1 q) fun us s2 ⟨vs, H2, I2, r, q2⟩ => ⟨I2.kIn, ?_⟩) hst hpl
  exact run_fnS (us := .ref a :: us) (vs := .ref a :: vs) F1 (hr.mono hk) hb (hx σ) I2 (.cons rfl r) q2
theorem pe_methF0 {pl : Sem Bool} (he : PE X o ta) (c : Cls X.K C) (hm : Meth X.K C m f) (F : Fn X.prog X.w X.K X.mg X.base k f ps sp) (hr : Room j X.A) (hx : ∀ σ, PassesAt (L2.CX X.prog X.w) X σ (E σ)) (hk : k ≤ j := by decide)
    (ht : eval (.Call (.Attribute o m apos) [] [] pos) X.env = (do
      let ov ← eval o X.env
      standAt apos.atName
      let (f, first) ← holding [ov] (getMethod ov m pl)
      callWith pos f first (backTo pos (starEach [] X.env)) (backToKw pos (keywordEach [] X.env))) := by rfl) :
    PE X (.Call (.Attribute o m apos) [] [] pos) (tMethF C m sp E ta tNil) := by
  obtain ⟨fd, F1, hb⟩ := F.ex
  refine ⟨fun pins s σ H Q I h => ?_⟩
  refine PySem.W.methodCall_KW (pl := pl) (thn (he.run pins s σ H _ I h) fun u s1 ⟨x, H1, I1, rx, a, dx, fs, ex, ea, l, q⟩ => ?_) ht
  subst ex
  obtain rfl : u = Value.ref a := rx
  refine getmeth_ok I1 ea c hm l ?_
  exact PySem.W.callWith_K0 (first := [.ref a]) I1.kIn hm.kp (run_fnS (us := [.ref a]) (vs := [.ref a]) F1 (hr.mono hk) hb (hx σ) I1 (.cons rfl .nil) q)
end

/-! ### isinstance(e, (A, B, ..)) of the exception that a suite holds -/
def rIsET (K : PySem.W.Frag) (D a : Addr) : List V → Hp → VK → Prop := fun xs H Q => ∃ (tp : Addr) (cs : List V) (us : List Value) (b : Bool), xs = [.ref a, .ref tp] ∧ H tp = some (.tup cs) ∧ Paired ClsV cs us ∧ PySem.W.kitAny K (.ref D) us = some b ∧ Q (.bl b) H
theorem call_isET {X : Cx} {a D : Addr} {oe : Obj} {pn : List (Addr × Obj)} (C : ExcC X.K D) (hz : Zc (.ref D) none oe) (hf : ∃ vs, oe.data = .fields vs) : CallR (X.suite a ((a, oe) :: pn)) (.builtin "isinstance") (rIsET X.K D a) := by
  intro pins s σ H xs us Q I r h
  obtain ⟨tp, cs, ws, b, rfl, hT, k, e, q⟩ := h
  obtain ⟨u1, u2, rfl, r1, r2⟩ := vals2 r
  cases (show u1 = Value.ref a from r1)
  cases (show u2 = Value.ref tp from r2)
  obtain ⟨hget, _⟩ := I.pin (a, oe) (List.mem_append.mpr (.inl List.mem_cons_self))
  obtain ⟨vs, hv⟩ := hf
  have J : PySem.W.InstAt s.heap a oe D none := by
    obtain ⟨oc, od, oda, osl⟩ := oe
    obtain ⟨h1, h2⟩ := hz
    dsimp only at h1 h2 hv
    subst h1 h2 hv
    exact ⟨hget, rfl, rfl, trivial⟩
  obtain ⟨_, its, rv, o, h1, h2, n, h3⟩ := (show ObjOk X.prog X.w H s.heap tp (.tup cs) from I.hok tp _ hT)
  have e3 := ClsV.all k rv
  subst e3
  obtain ⟨oc, od, dt, sl⟩ := o
  simp only at h2 h3
  subst h2 h3
  exact PySem.W.kia_tup (PySem.W.handS_kitx_exc C.hg C.hk C.hs C.hd C.ha C.hn C.ht C.hm) I.kIn J h1 e (fun z => nomatch z) fun tk => ⟨.bl b, H, I.kept (t' := tk) fun _ _ z => z, rfl, q⟩

/-! .. whatever the class of the exception is: the reading says it -/
def rIsE2 (K : PySem.W.Frag) (a : Addr) (cls : Value) (d : Option Addr) : List V → Hp → VK → Prop := fun xs H Q => ∃ D, cls = .ref D ∧ d = none ∧ ExcC K D ∧ rIsE K D a xs H Q
def rIsET2 (K : PySem.W.Frag) (a : Addr) (cls : Value) (d : Option Addr) : List V → Hp → VK → Prop := fun xs H Q => ∃ D, cls = .ref D ∧ d = none ∧ ExcC K D ∧ rIsET K D a xs H Q
section
variable {X : Cx} {a : Addr} {cls : Value} {d : Option Addr} {oe : Obj} {pn : List (Addr × Obj)}
theorem call_isE2 (hz : Zc cls d oe) (hf : ∃ vs, oe.data = .fields vs) : CallR (X.suite a ((a, oe) :: pn)) (.builtin "isinstance") (rIsE2 X.K a cls d) := by
  intro pins s σ H xs us Q I r h
  obtain ⟨D, rfl, rfl, C, h⟩ := h
  exact call_isE C hz hf pins s σ H xs us Q I r h
theorem call_isET2 (hz : Zc cls d oe) (hf : ∃ vs, oe.data = .fields vs) : CallR (X.suite a ((a, oe) :: pn)) (.builtin "isinstance") (rIsET2 X.K a cls d) := by
  intro pins s σ H xs us Q I r h
  obtain ⟨D, rfl, rfl, C, h⟩ := h
  exact call_isET C hz hf pins s σ H xs us Q I r h
end

/-! ### classes as values -/
theorem pe_clsv {X : Cx} {x : Str} {C : Addr} {pos : Pos} (hm : X.mg x = some (.ref C)) (hg : Gl X x := by rfl) (hd : (x == ("__debug__" : Str)) = false := by decide) : PE X (.Name x pos) (tC (.ref C)) := pe_glob hg hm rfl hd
theorem pe_tyv {X : Cx} {x : Str} (n : String) {pos : Pos} (hm : X.mg x = none) (hv : bootBuiltins x = some (.type n) := by decide +kernel) (hg : Gl X x := by rfl) (hn : x ≠ "__name__" := by decide) (hd : (x == ("__debug__" : Str)) = false := by decide) : PE X (.Name x pos) (tC (.ty n)) := pe_bltn hg hm hv rfl hn hd

/-! ### readings -/
theorem cpow10 {j : Int} : CPow 10 j ↔ 0 ≤ j ∧ j ≤ 1000000 := by
  unfold CPow
  constructor
  · rintro ⟨h1, h2, _⟩; exact ⟨h1, h2⟩
  · rintro ⟨h1, h2⟩; exact ⟨h1, h2, by decide⟩
theorem rEq_int {i j : Int} {H : Hp} {Q : VK} : rEq (.int i) (.int j) H Q = Q (.bl (decide (i = j))) H := by
  unfold rEq
  rw [show decide (V.int i = V.int j) = decide (i = j) from by simp]
  simp [scal]
theorem rNe_int {i j : Int} {H : Hp} {Q : VK} : rNe (.int i) (.int j) H Q = Q (.bl (!decide (i = j))) H := by
  unfold rNe
  rw [show decide (V.int i = V.int j) = decide (i = j) from by simp]
  simp [scal]
theorem cdiv_iff {i j : Int} : CDiv i j ↔ 0 < j ∧ j < 1073741824 := Iff.rfl
theorem cpow_iff {i j : Int} : CPow i j ↔ 0 ≤ j ∧ j ≤ 1000000 ∧ i.natAbs < 18446744073709551616 := Iff.rfl
theorem get_lt {ns : List Int} {k : Int} (h0 : 0 ≤ k) (h : k < (ns.map V.int).length) : atI (ns.map V.int) k = some (V.int (ns.getD k.toNat 0)) := by
  rw [List.length_map] at h
  obtain ⟨n, rfl⟩ := Int.eq_ofNat_of_zero_le h0
  refine atI_nat ?_
  have hn : n < ns.length := by omega
  rw [List.getElem?_map, List.getElem?_eq_getElem hn]
  simp [List.getD_eq_getElem?_getD, List.getElem?_eq_getElem hn]
theorem bits_le {i : Int} {n : Nat} (h : i.natAbs < 2 ^ n) : Builtin.Int.intBits i ≤ n := PyProof.Rows.intBits_le h
theorem divp_small {i j : Int} {n : Nat} (hj : 0 < j) (h : i.natAbs < 2 ^ n) (hn : n ≤ 4000) : CDivP i j := divp_ok hj (Nat.le_trans (bits_le h) (by omega))
theorem mul_small {i j : Int} {n m : Nat} (h : i.natAbs < 2 ^ n) (g : j.natAbs < 2 ^ m) : (i * j).natAbs < 2 ^ (n + m) := by
  rw [Int.natAbs_mul, Nat.pow_add]
  exact Nat.mul_lt_mul'' h g

theorem abs250 {x : Int} (h0 : -10 ^ 70 ≤ x) (h1 : x ≤ 10 ^ 70) : x.natAbs < 2 ^ 250 := by omega
theorem same_new {H : Hp} {p : Addr} {o : HO} (h : H p = none) : Same H (upd H p o) := fun b u e => by rw [upd_ne (ne_of_none e h)]; exact e
theorem same_t {K : PySem.W.Frag} {H H' : Hp} {a : Addr} {xs : List V} (e : Same H H') (h : SqT K H a xs) : SqT K H' a xs := by
  rcases h with (h | ⟨o, h⟩) | h
  · exact .inl (.inl (e _ _ h))
  · exact .inl (.inr ⟨o, e _ _ h⟩)
  · exact .inr h

/-! ### isinstance of ints -/
theorem isi_of {K : PySem.W.Frag} {x : V} {n t : String} {r : Bool} {H : Hp} {Q : VK} (ht : ∀ u, TyX K H x u → u = .type t) (hx : TyX K H x (.type t)) (hk : kitB t n = some r) : rIsi K [x, .ty n] H Q ↔ Q (.bl r) H := by
  constructor
  · rintro ⟨x', c, t', u, b, e, k, ty, hb, q⟩
    simp only [List.cons.injEq, and_true] at e
    obtain ⟨rfl, rfl⟩ := e
    cases k
    have e2 := ht _ ty
    subst e2
    have := (kit_ty (K := K) hk).symm.trans hb
    rw [Option.some.inj this]
    exact q
  · intro q
    exact ⟨_, _, _, _, _, rfl, .ty _, hx, kit_ty hk, q⟩
theorem ty_int {K : PySem.W.Frag} {H : Hp} {i : Int} : ∀ u, TyX K H (.int i) u → u = .type "int" := fun u h => by
  cases h with
  | base h => cases h; rfl
theorem isi_int_int {K : PySem.W.Frag} {i : Int} {H : Hp} {Q : VK} : rIsi K [.int i, .ty "int"] H Q ↔ Q (.bl true) H := isi_of ty_int (.base (.int i)) (by decide +kernel)
theorem isi_int_bool {K : PySem.W.Frag} {i : Int} {H : Hp} {Q : VK} : rIsi K [.int i, .ty "bool"] H Q ↔ Q (.bl false) H := isi_of ty_int (.base (.int i)) (by decide +kernel)
theorem ty_bool {K : PySem.W.Frag} {H : Hp} {i : Bool} : ∀ u, TyX K H (.bl i) u → u = .type "bool" := fun u h => by
  cases h with
  | base h => cases h; rfl
theorem isi_bool_bool {K : PySem.W.Frag} {i : Bool} {H : Hp} {Q : VK} : rIsi K [.bl i, .ty "bool"] H Q ↔ Q (.bl true) H := isi_of ty_bool (.base (.bl i)) (by decide +kernel)

/-! ### the suite of a refusal: others = isinstance(e, (A, B, C, D)); return isinstance(e, X) and isinstance(e, ValueError) and not others -/
def tSuite4 (K : PySem.W.Frag) (i j : Nat) (y1 y2 y3 y4 D : Addr) : Addr → Value → Option Addr → TS := fun a cls d =>
  tSeq (tAsg (tCB (rIsET2 K a cls d) (tCons (tVar i) (tCons (tTup (tCons (tC (V.ref y1)) (tCons (tC (V.ref y2)) (tCons (tC (V.ref y3)) (tCons (tC (V.ref y4)) tNil))))) tNil))) (gName j))
    (tRet (tAndV (tCB (rIsE2 K a cls d) (tCons (tVar i) (tCons (tC (V.ref D)) tNil))) (tAndV (tCB (rIsE2 K a cls d) (tCons (tVar i) (tCons (tC (V.ty "ValueError")) tNil))) (tNotV (tVar j)))))
theorem suite_ok {K : PySem.W.Frag} {mid D y1 y2 y3 y4 : Addr} {i j : Nat} {σ : L2.St} {H : Hp} {Dd : Ends} (hm : PySem.W.exmOne K (.ref D) (.ref mid) = some true) (xe : ExcC K D) (kn : PySem.W.kitAny K (.ref D) [.ref y1, .ref y2, .ref y3, .ref y4] = some false)
    (ki : PySem.W.kitOne K (.ref D) (.ref D) = some true) (kv : PySem.W.kitOne K (.ref D) (.type "ValueError") = some true) (hi : i < σ.length) (hj : j < σ.length) (ne : i ≠ j) (q : ∀ H', Same H H' → Dd.rt (.bl true) H') :
    WE (wAs K (.ref mid) i (tSuite4 K i j y1 y2 y3 y4 D) (fun _ _ _ _ => False) Dd) σ (.ref D) none H := by
  refine ⟨true, hm, fun _ a na => ?_, fun z => nomatch z⟩
  have e1 : (σ.set i (some (V.ref a)))[i]? = some (some (V.ref a)) := by rw [List.getElem?_set_self hi]
  refine ⟨_, e1, by show 4 ≤ sizeLine; decide, fun p hp => ?_⟩
  have s1 : Same H (upd H p (.tup [V.ref y1, V.ref y2, V.ref y3, V.ref y4])) := fun b o e => by rw [upd_ne (ne_of_none e hp)]; exact e
  refine ⟨D, rfl, rfl, xe, p, _, _, false, rfl, upd_same, .cons (.own _) (.cons (.own _) (.cons (.own _) (.cons (.own _) .nil))), kn, ?_⟩
  have e2 : ((σ.set i (some (V.ref a))).set j (some (V.bl false)))[i]? = some (some (V.ref a)) := by rw [List.getElem?_set_ne (Ne.symm ne)]; exact e1
  have e3 : ((σ.set i (some (V.ref a))).set j (some (V.bl false)))[j]? = some (some (V.bl false)) := by rw [List.getElem?_set_self (by rw [List.length_set]; exact hj)]
  refine ⟨_, e2, D, rfl, rfl, xe, _, _, true, rfl, fun u r => r, ki, true, rfl, iteT ?_⟩
  refine ⟨_, e2, D, rfl, rfl, xe, _, _, true, rfl, fun u r => r, kv, true, rfl, iteT ?_⟩
  exact ⟨_, e3, false, rfl, q _ s1⟩

/-! ### facts of the top -/
open He in
/-- more facts, by names -/
inductive Fb where
  | kit (x y : Str) (b : Bool)
  | kitT (x : Str) (n : String) (b : Bool)
  | kitL (x : Str) (ys : List Str) (b : Bool)
  | inh (x y m : Str)
  | exc (x : Str)
  | ins (x : Str)
def clsB (K : PySem.W.Frag) (D : Addr) : Bool := decide (PySem.W.findIn K (.ref D) "__class__" = some (some (.builtin "object.__class__"))) && (decide (PySem.W.specialIn K (.builtin "object.__class__") "__get__" = some (some (.builtin "getset_descriptor.__get__"))) &&
  (decide (PySem.W.takesIn K (.builtin "object.__class__") = some true) && decide (PySem.W.mroIn K D (.type "object") = some true)))
def excB (K : PySem.W.Frag) (D : Addr) : Bool := decide (PySem.W.findIn K (.ref D) "__getattribute__" = some (some (.builtin "BaseException.__getattribute__"))) && (decide (PySem.W.findIn K (.ref D) "__getattr__" = some none) &&
  (decide (PySem.W.subIn K (.ref D) (.type "BaseException") = some true) && (PySem.W.hasDictIn K D && clsB K D)))
open He in
def Fb.ok (K : PySem.W.Frag) : Fb → Bool
  | .kit x y b => decide (PySem.W.kitOne K (.ref (ga K x)) (.ref (ga K y)) = some b)
  | .kitT x n b => decide (PySem.W.kitOne K (.ref (ga K x)) (.type n) = some b)
  | .kitL x ys b => decide (PySem.W.kitAny K (.ref (ga K x)) (ys.map fun y => Value.ref (ga K y)) = some b)
  | .inh x y m => decide (ma K (ga K x) m = ma K (ga K y) m)
  | .exc x => excB K (ga K x)
  | .ins x => clsB K (ga K x)
theorem ba2 {a b : Bool} (h : (a && b) = true) : a = true ∧ b = true := Bool.and_eq_true_iff.mp h
structure InsC (K : PySem.W.Frag) (D : Addr) : Prop where
  ha : PySem.W.findIn K (.ref D) "__class__" = some (some (.builtin "object.__class__"))
  hn : PySem.W.specialIn K (.builtin "object.__class__") "__get__" = some (some (.builtin "getset_descriptor.__get__"))
  ht : PySem.W.takesIn K (.builtin "object.__class__") = some true
  hm : PySem.W.mroIn K D (.type "object") = some true
theorem clsB_ok {K : PySem.W.Frag} {D : Addr} (h : clsB K D = true) : InsC K D := by
  obtain ⟨h1, h⟩ := ba2 h
  obtain ⟨h2, h⟩ := ba2 h
  obtain ⟨h3, h4⟩ := ba2 h
  exact ⟨of_decide_eq_true h1, of_decide_eq_true h2, of_decide_eq_true h3, of_decide_eq_true h4⟩
theorem excB_ok {K : PySem.W.Frag} {D : Addr} (h : excB K D = true) : ExcC K D := by
  obtain ⟨h1, h⟩ := ba2 h
  obtain ⟨h2, h⟩ := ba2 h
  obtain ⟨h3, h⟩ := ba2 h
  obtain ⟨h4, h5⟩ := ba2 h
  have c := clsB_ok h5
  exact ⟨of_decide_eq_true h1, of_decide_eq_true h2, of_decide_eq_true h3, h4, c.ha, c.hn, c.ht, c.hm⟩
theorem TyOf.of {K : PySem.W.Frag} {H : Hp} {a C dx : Addr} {fs : List (Str × V)} (c : InsC K C) (cl : Cls K C) (e : H a = some (.ins C dx fs)) : TyOf K H (.ref a) (.ref C) := .ins e cl c.ha c.hn c.ht c.hm

open He in
abbrev AlM : Type := AlD × Bool
open He in
def obsM (fa : List Fa) (fn : List DefD) (fb : List Fb) (K : PySem.W.Frag) : AlM := (obsD fa fn K, fb.all fun f => f.ok K)
open He in
def valM (fn : List DefD) : AlM := (valD fn, true)
open He in
def SaysM (fa : List Fa) (fn : List DefD) (fb : List Fb) (K : PySem.W.Frag) : Prop := obsM fa fn fb K = valM fn
open He in
def obsMG (n : Nat) (fa : List Fa) (fn : List DefD) (fb : List Fb) (g : Addr → Option Obj) : AlM := obsM fa fn fb (frG g (asD g n))
open He in
def hookM (n : Nat) (fa : List Fa) (fn : List DefD) (fb : List Fb) : PySem.W.Hook where
  α := AlM
  obs := fun s => obsMG n fa fn fb s.heap.get?
  val := fun _ => valM fn
  says := fun _ h => ∃ K : PySem.W.Frag, K.In h ∧ SaysM fa fn fb K
  of := fun _ _ e => ⟨_, frG_in, e⟩
  keeps := fun _ _ _ ⟨K, hK, c⟩ k => ⟨K, PySem.W.Frag.In.keeps hK k, c⟩
open He in
theorem obsMG_eq {n : Nat} {fa : List Fa} {fn : List DefD} {fb : List Fb} {g : Addr → Option Obj} {s : Shared} (h : ∀ a, g a = s.heap.get? a) : obsMG n fa fn fb g = (hookM n fa fn fb).obs s := by
  have e : g = s.heap.get? := funext h
  rw [e] <;> rfl
section
open He
variable {fa : List Fa} {fn : List DefD} {fb : List Fb} {K : PySem.W.Frag}
theorem SaysM.d (c : SaysM fa fn fb K) : SaysD fa fn K := congrArg (fun z : AlM => z.1) c
theorem SaysM.more (c : SaysM fa fn fb K) (i : Nat) {f : Fb} (h : fb[i]? = some f := by rfl) : f.ok K = true := by
  have e : (fb.all fun f => f.ok K) = true := congrArg (fun z : AlM => z.2) c
  exact List.all_eq_true.mp e f (List.mem_of_getElem? h)
/-- a class's method that another class has by inheritance -/
theorem inh_ok {x y m : Str} (c : (Fa.meth x m).ok K = true) (e : (Fb.inh x y m).ok K = true) : Meth K (ga K x) m (ma K (ga K y) m) := by
  have e2 : ma K (ga K x) m = ma K (ga K y) m := of_decide_eq_true e
  have r := meth_ok c
  rw [e2] at r
  exact r
end
/-- a def of the text by its datum -/
abbrev FnP (K : PySem.W.Frag) (x qual : Str) (st : Stmt) (f : Addr) (fd : FuncData) : Prop := FunD K x qual (defArgs st) (defBody st) (defScope st) [] [] f fd
section
variable {P : Program} {w : World} {K : PySem.W.Frag} {mg : Str → Option Value} {base : Heap}
/-- THE RULE for a def without defaults that lets nothing out of its own -/
theorem fn_ok {x qual : Str} {st : Stmt} {f : Addr} {fd : FuncData} {N ps : List Str} {k : Nat} {sp : Sp} (F : FnP K x qual st f fd) (S : FnScope N ps (defScope st)) (len : ∀ vs H Q E, sp vs H Q E → vs.length = ps.length)
    (hb : ∀ (kV doc pm : Value) (an : Option Addr) (cdv ct : Value) (us : List Value), us.length = ps.length → bindArgs (PySem.W.fnOf x qual (defArgs st) (defBody st) (defScope st) .none kV doc pm an cdv ct) ⟨us, []⟩ = pure (ps.zip us))
    (hbody : ∀ (cdv : Value) (A : Around) (outer : List Env) (s : Shared) (H : Hp) (vs : List V) (Q : VK) (E : XK), Room k (A.deeper (envOfC qual (defScope st) s.heap.objs.size f cdv)) → sp vs H Q E →
      ∃ t, PSs (cxOf (L2.CX P w) P w K mg base N qual (defScope st) f cdv A outer s H E).nox (defBody st) t ∧ t { nx := fun _ H' => Q .non H', rt := Q } (start N vs) H) : Fn P w K mg base (k + 1) f ps sp :=
  ⟨⟨fd, F.ok S len fun cdv A outer s H vs Q E hr hsp => by
    obtain ⟨t, h, q⟩ := hbody cdv A outer s H vs Q E hr hsp
    exact ⟨t, h.nox, q⟩, F.bindsN hb⟩, F.kp⟩
/-- the law's own def -/
theorem fn_ok0 {x qual : Str} {st : Stmt} {f : Addr} {fd : FuncData} {N ps : List Str} {k : Nat} {sp : Sp} (F : FnP K x qual st f fd) (S : FnScope N ps (defScope st)) (len : ∀ vs H Q E, sp vs H Q E → vs.length = ps.length)
    (hbody : ∀ (cdv : Value) (A : Around) (outer : List Env) (s : Shared) (H : Hp) (vs : List V) (Q : VK) (E : XK), Room k (A.deeper (envOfC qual (defScope st) s.heap.objs.size f cdv)) → sp vs H Q E →
      ∃ t, PSs (cxOf CX0 P w K mg base N qual (defScope st) f cdv A outer s H E).nox (defBody st) t ∧ t { nx := fun _ H' => Q .non H', rt := Q } (start N vs) H) : FnOk P w K mg base CX0 (k + 1) f fd ps sp :=
  F.ok S len fun cdv A outer s H vs Q E hr hsp => by
    obtain ⟨t, h, q⟩ := hbody cdv A outer s H vs Q E hr hsp
    exact ⟨t, h.nox, q⟩
/-- .. that may raise -/
theorem fn_okX {x qual : Str} {st : Stmt} {f : Addr} {fd : FuncData} {N ps : List Str} {k : Nat} {sp : Sp} (F : FnP K x qual st f fd) (S : FnScope N ps (defScope st)) (len : ∀ vs H Q E, sp vs H Q E → vs.length = ps.length)
    (hb : ∀ (kV doc pm : Value) (an : Option Addr) (cdv ct : Value) (us : List Value), us.length = ps.length → bindArgs (PySem.W.fnOf x qual (defArgs st) (defBody st) (defScope st) .none kV doc pm an cdv ct) ⟨us, []⟩ = pure (ps.zip us))
    (hbody : ∀ (cdv : Value) (A : Around) (outer : List Env) (s : Shared) (H : Hp) (vs : List V) (Q : VK) (E : XK), Room k (A.deeper (envOfC qual (defScope st) s.heap.objs.size f cdv)) → sp vs H Q E →
      ∃ t, PSs (cxOf (L2.CX P w) P w K mg base N qual (defScope st) f cdv A outer s H E) (defBody st) t ∧ t { nx := fun _ H' => Q .non H', rt := Q } (start N vs) H) : Fn P w K mg base (k + 1) f ps sp :=
  ⟨⟨fd, F.ok S len hbody, F.bindsN hb⟩, F.kp⟩
end
end Mp

/-! ### places, scopes and facts of the top -/
namespace Mp
open PySem PySem.Spec PyProof.Rows L2
def topAt (i : Nat) : Stmt := PySem.Challenge.pw_midpile_k01_place_of_a_share.main.body.getD i (.Pass ⟨0, 0, 0, 0⟩)
abbrev s_place : Stmt := topAt 8
abbrev N_place : List Str := ["many", "part", "whole", "full", "rest"]
abbrev P_place : List Str := ["many", "part", "whole"]
theorem sc_place : FnScope N_place P_place (defScope s_place) := ⟨rfl, rfl, rfl, by decide +kernel, rfl, by decide +kernel, by decide +kernel⟩
def d_place : He.DefD := ⟨("place", none), "place", "place", defArgs s_place, defBody s_place, defScope s_place, [], []⟩
abbrev s_law_at : Stmt := topAt 10
abbrev N_law_at : List Str := ["_law_script", "_law_k"]
abbrev P_law_at : List Str := ["_law_script", "_law_k"]
theorem sc_law_at : FnScope N_law_at P_law_at (defScope s_law_at) := ⟨rfl, rfl, rfl, by decide +kernel, rfl, by decide +kernel, by decide +kernel⟩
def d_law_at : He.DefD := ⟨("_law_at", none), "_law_at", "_law_at", defArgs s_law_at, defBody s_law_at, defScope s_law_at, [], []⟩
abbrev s_law_right : Stmt := topAt 11
abbrev N_law_right : List Str := ["_law_found", "_law_many_here", "_law_part_here", "_law_whole"]
abbrev P_law_right : List Str := ["_law_found", "_law_many_here", "_law_part_here", "_law_whole"]
theorem sc_law_right : FnScope N_law_right P_law_right (defScope s_law_right) := ⟨rfl, rfl, rfl, by decide +kernel, rfl, by decide +kernel, by decide +kernel⟩
def d_law_right : He.DefD := ⟨("_law_right", none), "_law_right", "_law_right", defArgs s_law_right, defBody s_law_right, defScope s_law_right, [], []⟩
abbrev s_law_refused : Stmt := topAt 12
abbrev N_law_refused : List Str := ["_law_many_here", "_law_part_here", "_law_whole", "e", "_law_others"]
abbrev P_law_refused : List Str := ["_law_many_here", "_law_part_here", "_law_whole"]
theorem sc_law_refused : FnScope N_law_refused P_law_refused (defScope s_law_refused) := ⟨rfl, rfl, rfl, by decide +kernel, rfl, by decide +kernel, by decide +kernel⟩
def d_law_refused : He.DefD := ⟨("_law_refused", none), "_law_refused", "_law_refused", defArgs s_law_refused, defBody s_law_refused, defScope s_law_refused, [], []⟩
abbrev s_law_many : Stmt := topAt 13
abbrev N_law_many : List Str := ["_law_cell", "_law_whole", "_law_edge", "_law_many_here"]
abbrev P_law_many : List Str := ["_law_cell", "_law_whole", "_law_edge"]
theorem sc_law_many : FnScope N_law_many P_law_many (defScope s_law_many) := ⟨rfl, rfl, rfl, by decide +kernel, rfl, by decide +kernel, by decide +kernel⟩
def d_law_many : He.DefD := ⟨("_law_many", none), "_law_many", "_law_many", defArgs s_law_many, defBody s_law_many, defScope s_law_many, [], []⟩
abbrev s_law_part : Stmt := topAt 14
abbrev N_law_part : List Str := ["_law_cell", "_law_whole"]
abbrev P_law_part : List Str := ["_law_cell", "_law_whole"]
theorem sc_law_part : FnScope N_law_part P_law_part (defScope s_law_part) := ⟨rfl, rfl, rfl, by decide +kernel, rfl, by decide +kernel, by decide +kernel⟩
def d_law_part : He.DefD := ⟨("_law_part", none), "_law_part", "_law_part", defArgs s_law_part, defBody s_law_part, defScope s_law_part, [], []⟩
abbrev s_law : Stmt := topAt 15
abbrev N_law : List Str := ["_law_script", "_law_whole", "_law_part_here", "_law_many_here", "_law_far", "_law_bad", "_law_found", "_law_after"]
abbrev P_law : List Str := ["_law_script"]
theorem sc_law : FnScope N_law P_law (defScope s_law) := ⟨rfl, rfl, rfl, by decide +kernel, rfl, by decide +kernel, by decide +kernel⟩
def d_law : He.DefD := ⟨("law", none), "law", "law", defArgs s_law, defBody s_law, defScope s_law, [], []⟩
def fa : List He.Fa := [.glo "MidError", .glo "NoShare", .glo "NoThing", .glo "Empty", .glo "Twice", .glo "NoWidth", .glo "place", .glo "_law_at", .glo "_law_right", .glo "_law_refused", .glo "_law_many", .glo "_law_part", .glo "law", .free "divmod", .free "max", .free "len", .free "isinstance", .free "int", .free "bool", .free "ValueError", .exc "MidError", .exc "NoShare", .exm "NoShare" "MidError" true, .exm "NoShare" "NoShare" true, .exc "NoThing", .exm "NoThing" "MidError" true, .exm "NoThing" "NoThing" true, .exc "Empty", .exm "Empty" "MidError" true, .exm "Empty" "Empty" true, .exc "Twice", .exm "Twice" "MidError" true, .exm "Twice" "Twice" true, .exc "NoWidth", .exm "NoWidth" "MidError" true, .exm "NoWidth" "NoWidth" true]
def fb : List Fb := [.exc "NoShare", .kit "NoShare" "NoShare" true, .kitT "NoShare" "ValueError" true, .kitL "NoShare" ["Empty", "NoThing", "NoWidth", "Twice"] false, .exc "NoThing", .kit "NoThing" "NoThing" true, .kitT "NoThing" "ValueError" true, .exc "Empty", .kit "Empty" "Empty" true, .kitT "Empty" "ValueError" true, .exc "Twice", .kit "Twice" "Twice" true, .kitT "Twice" "ValueError" true, .exc "NoWidth", .kit "NoWidth" "NoWidth" true, .kitT "NoWidth" "ValueError" true]
def fn : List He.DefD := [d_place, d_law_at, d_law_right, d_law_refused, d_law_many, d_law_part, d_law]
/-- what the top has written -/
structure Tx (K : PySem.W.Frag) (mg : Str → Option Value) : Prop where
  g_MidError : mg "MidError" = some (.ref (He.ga K "MidError"))
  g_NoShare : mg "NoShare" = some (.ref (He.ga K "NoShare"))
  g_NoThing : mg "NoThing" = some (.ref (He.ga K "NoThing"))
  g_Empty : mg "Empty" = some (.ref (He.ga K "Empty"))
  g_Twice : mg "Twice" = some (.ref (He.ga K "Twice"))
  g_NoWidth : mg "NoWidth" = some (.ref (He.ga K "NoWidth"))
  g_place : mg "place" = some (.ref (He.ga K "place"))
  g__law_at : mg "_law_at" = some (.ref (He.ga K "_law_at"))
  g__law_right : mg "_law_right" = some (.ref (He.ga K "_law_right"))
  g__law_refused : mg "_law_refused" = some (.ref (He.ga K "_law_refused"))
  g__law_many : mg "_law_many" = some (.ref (He.ga K "_law_many"))
  g__law_part : mg "_law_part" = some (.ref (He.ga K "_law_part"))
  g_law : mg "law" = some (.ref (He.ga K "law"))
  z_divmod : mg "divmod" = none
  z_max : mg "max" = none
  z_len : mg "len" = none
  z_isinstance : mg "isinstance" = none
  z_int : mg "int" = none
  z_bool : mg "bool" = none
  z_ValueError : mg "ValueError" = none
  xc_MidError : PySem.W.excIn K (He.ga K "MidError") He.veBase "ValueError.__new__" = true ∧ PySem.W.keepIn K (.ref (He.ga K "MidError")) = true ∧ PySem.W.subIn K (.ref (He.ga K "MidError")) (.type "BaseException") = some true ∧ PySem.W.typeIn K (.ref (He.ga K "MidError")) = some (.type "type")
  xc_NoShare : PySem.W.excIn K (He.ga K "NoShare") He.veBase "ValueError.__new__" = true ∧ PySem.W.keepIn K (.ref (He.ga K "NoShare")) = true ∧ PySem.W.subIn K (.ref (He.ga K "NoShare")) (.type "BaseException") = some true ∧ PySem.W.typeIn K (.ref (He.ga K "NoShare")) = some (.type "type")
  em_NoShare : PySem.W.exmOne K (.ref (He.ga K "NoShare")) (.ref (He.ga K "MidError")) = some true
  es_NoShare : PySem.W.exmOne K (.ref (He.ga K "NoShare")) (.ref (He.ga K "NoShare")) = some true
  xc_NoThing : PySem.W.excIn K (He.ga K "NoThing") He.veBase "ValueError.__new__" = true ∧ PySem.W.keepIn K (.ref (He.ga K "NoThing")) = true ∧ PySem.W.subIn K (.ref (He.ga K "NoThing")) (.type "BaseException") = some true ∧ PySem.W.typeIn K (.ref (He.ga K "NoThing")) = some (.type "type")
  em_NoThing : PySem.W.exmOne K (.ref (He.ga K "NoThing")) (.ref (He.ga K "MidError")) = some true
  es_NoThing : PySem.W.exmOne K (.ref (He.ga K "NoThing")) (.ref (He.ga K "NoThing")) = some true
  xc_Empty : PySem.W.excIn K (He.ga K "Empty") He.veBase "ValueError.__new__" = true ∧ PySem.W.keepIn K (.ref (He.ga K "Empty")) = true ∧ PySem.W.subIn K (.ref (He.ga K "Empty")) (.type "BaseException") = some true ∧ PySem.W.typeIn K (.ref (He.ga K "Empty")) = some (.type "type")
  em_Empty : PySem.W.exmOne K (.ref (He.ga K "Empty")) (.ref (He.ga K "MidError")) = some true
  es_Empty : PySem.W.exmOne K (.ref (He.ga K "Empty")) (.ref (He.ga K "Empty")) = some true
  xc_Twice : PySem.W.excIn K (He.ga K "Twice") He.veBase "ValueError.__new__" = true ∧ PySem.W.keepIn K (.ref (He.ga K "Twice")) = true ∧ PySem.W.subIn K (.ref (He.ga K "Twice")) (.type "BaseException") = some true ∧ PySem.W.typeIn K (.ref (He.ga K "Twice")) = some (.type "type")
  em_Twice : PySem.W.exmOne K (.ref (He.ga K "Twice")) (.ref (He.ga K "MidError")) = some true
  es_Twice : PySem.W.exmOne K (.ref (He.ga K "Twice")) (.ref (He.ga K "Twice")) = some true
  xc_NoWidth : PySem.W.excIn K (He.ga K "NoWidth") He.veBase "ValueError.__new__" = true ∧ PySem.W.keepIn K (.ref (He.ga K "NoWidth")) = true ∧ PySem.W.subIn K (.ref (He.ga K "NoWidth")) (.type "BaseException") = some true ∧ PySem.W.typeIn K (.ref (He.ga K "NoWidth")) = some (.type "type")
  em_NoWidth : PySem.W.exmOne K (.ref (He.ga K "NoWidth")) (.ref (He.ga K "MidError")) = some true
  es_NoWidth : PySem.W.exmOne K (.ref (He.ga K "NoWidth")) (.ref (He.ga K "NoWidth")) = some true
  xe_NoShare : ExcC K (He.ga K "NoShare")
  ki_NoShare : PySem.W.kitOne K (.ref (He.ga K "NoShare")) (.ref (He.ga K "NoShare")) = some true
  kv_NoShare : PySem.W.kitOne K (.ref (He.ga K "NoShare")) (.type "ValueError") = some true
  kn_NoShare : PySem.W.kitAny K (.ref (He.ga K "NoShare")) ((["Empty", "NoThing", "NoWidth", "Twice"] : List Str).map fun y => Value.ref (He.ga K y)) = some false
  xe_NoThing : ExcC K (He.ga K "NoThing")
  ki_NoThing : PySem.W.kitOne K (.ref (He.ga K "NoThing")) (.ref (He.ga K "NoThing")) = some true
  kv_NoThing : PySem.W.kitOne K (.ref (He.ga K "NoThing")) (.type "ValueError") = some true
  xe_Empty : ExcC K (He.ga K "Empty")
  ki_Empty : PySem.W.kitOne K (.ref (He.ga K "Empty")) (.ref (He.ga K "Empty")) = some true
  kv_Empty : PySem.W.kitOne K (.ref (He.ga K "Empty")) (.type "ValueError") = some true
  xe_Twice : ExcC K (He.ga K "Twice")
  ki_Twice : PySem.W.kitOne K (.ref (He.ga K "Twice")) (.ref (He.ga K "Twice")) = some true
  kv_Twice : PySem.W.kitOne K (.ref (He.ga K "Twice")) (.type "ValueError") = some true
  xe_NoWidth : ExcC K (He.ga K "NoWidth")
  ki_NoWidth : PySem.W.kitOne K (.ref (He.ga K "NoWidth")) (.ref (He.ga K "NoWidth")) = some true
  kv_NoWidth : PySem.W.kitOne K (.ref (He.ga K "NoWidth")) (.type "ValueError") = some true
theorem tx_of {K : PySem.W.Frag} {h : Heap} {mg : Str → Option Value} (X : K.In h) (G : h.Ns mainGlobals mg) (c : SaysM fa fn fb K) : Tx K mg :=
  { g_MidError := He.glo_ok X G (c.d.fact 0 (f := .glo "MidError") rfl),
    g_NoShare := He.glo_ok X G (c.d.fact 1 (f := .glo "NoShare") rfl),
    g_NoThing := He.glo_ok X G (c.d.fact 2 (f := .glo "NoThing") rfl),
    g_Empty := He.glo_ok X G (c.d.fact 3 (f := .glo "Empty") rfl),
    g_Twice := He.glo_ok X G (c.d.fact 4 (f := .glo "Twice") rfl),
    g_NoWidth := He.glo_ok X G (c.d.fact 5 (f := .glo "NoWidth") rfl),
    g_place := He.glo_ok X G (c.d.fact 6 (f := .glo "place") rfl),
    g__law_at := He.glo_ok X G (c.d.fact 7 (f := .glo "_law_at") rfl),
    g__law_right := He.glo_ok X G (c.d.fact 8 (f := .glo "_law_right") rfl),
    g__law_refused := He.glo_ok X G (c.d.fact 9 (f := .glo "_law_refused") rfl),
    g__law_many := He.glo_ok X G (c.d.fact 10 (f := .glo "_law_many") rfl),
    g__law_part := He.glo_ok X G (c.d.fact 11 (f := .glo "_law_part") rfl),
    g_law := He.glo_ok X G (c.d.fact 12 (f := .glo "law") rfl),
    z_divmod := He.free_ok X G (c.d.fact 13 (f := .free "divmod") rfl),
    z_max := He.free_ok X G (c.d.fact 14 (f := .free "max") rfl),
    z_len := He.free_ok X G (c.d.fact 15 (f := .free "len") rfl),
    z_isinstance := He.free_ok X G (c.d.fact 16 (f := .free "isinstance") rfl),
    z_int := He.free_ok X G (c.d.fact 17 (f := .free "int") rfl),
    z_bool := He.free_ok X G (c.d.fact 18 (f := .free "bool") rfl),
    z_ValueError := He.free_ok X G (c.d.fact 19 (f := .free "ValueError") rfl),
    xc_MidError := He.exc_ok (c.d.fact 20 (f := .exc "MidError") rfl),
    xc_NoShare := He.exc_ok (c.d.fact 21 (f := .exc "NoShare") rfl),
    em_NoShare := He.exm_ok (c.d.fact 22 (f := .exm "NoShare" "MidError" true) rfl),
    es_NoShare := He.exm_ok (c.d.fact 23 (f := .exm "NoShare" "NoShare" true) rfl),
    xc_NoThing := He.exc_ok (c.d.fact 24 (f := .exc "NoThing") rfl),
    em_NoThing := He.exm_ok (c.d.fact 25 (f := .exm "NoThing" "MidError" true) rfl),
    es_NoThing := He.exm_ok (c.d.fact 26 (f := .exm "NoThing" "NoThing" true) rfl),
    xc_Empty := He.exc_ok (c.d.fact 27 (f := .exc "Empty") rfl),
    em_Empty := He.exm_ok (c.d.fact 28 (f := .exm "Empty" "MidError" true) rfl),
    es_Empty := He.exm_ok (c.d.fact 29 (f := .exm "Empty" "Empty" true) rfl),
    xc_Twice := He.exc_ok (c.d.fact 30 (f := .exc "Twice") rfl),
    em_Twice := He.exm_ok (c.d.fact 31 (f := .exm "Twice" "MidError" true) rfl),
    es_Twice := He.exm_ok (c.d.fact 32 (f := .exm "Twice" "Twice" true) rfl),
    xc_NoWidth := He.exc_ok (c.d.fact 33 (f := .exc "NoWidth") rfl),
    em_NoWidth := He.exm_ok (c.d.fact 34 (f := .exm "NoWidth" "MidError" true) rfl),
    es_NoWidth := He.exm_ok (c.d.fact 35 (f := .exm "NoWidth" "NoWidth" true) rfl),
    xe_NoShare := excB_ok (c.more 0 (f := .exc "NoShare") rfl),
    ki_NoShare := of_decide_eq_true (c.more 1 (f := .kit "NoShare" "NoShare" true) rfl),
    kv_NoShare := of_decide_eq_true (c.more 2 (f := .kitT "NoShare" "ValueError" true) rfl),
    kn_NoShare := of_decide_eq_true (c.more 3 (f := .kitL "NoShare" ["Empty", "NoThing", "NoWidth", "Twice"] false) rfl),
    xe_NoThing := excB_ok (c.more 4 (f := .exc "NoThing") rfl),
    ki_NoThing := of_decide_eq_true (c.more 5 (f := .kit "NoThing" "NoThing" true) rfl),
    kv_NoThing := of_decide_eq_true (c.more 6 (f := .kitT "NoThing" "ValueError" true) rfl),
    xe_Empty := excB_ok (c.more 7 (f := .exc "Empty") rfl),
    ki_Empty := of_decide_eq_true (c.more 8 (f := .kit "Empty" "Empty" true) rfl),
    kv_Empty := of_decide_eq_true (c.more 9 (f := .kitT "Empty" "ValueError" true) rfl),
    xe_Twice := excB_ok (c.more 10 (f := .exc "Twice") rfl),
    ki_Twice := of_decide_eq_true (c.more 11 (f := .kit "Twice" "Twice" true) rfl),
    kv_Twice := of_decide_eq_true (c.more 12 (f := .kitT "Twice" "ValueError" true) rfl),
    xe_NoWidth := excB_ok (c.more 13 (f := .exc "NoWidth") rfl),
    ki_NoWidth := of_decide_eq_true (c.more 14 (f := .kit "NoWidth" "NoWidth" true) rfl),
    kv_NoWidth := of_decide_eq_true (c.more 15 (f := .kitT "NoWidth" "ValueError" true) rfl) }
theorem bind_of : True := trivial
end Mp


namespace Mp
open PySem PySem.Spec PyProof.Rows L2
abbrev Rw : PySem.W.OpenRow := PySem.W.OpenLaw.row PySem.Challenge.rw_midpile_k01_place_of_a_share
abbrev hk : PySem.W.Hook := hookM 5 fa fn fb
def obH (s : PySem.W.SharedT) : AlM := obsMG 5 fa fn fb (HandSHeadRun.getT s)
theorem obH_eq (s : PySem.W.SharedT) : obH s = hk.obs s.abs := obsMG_eq (HandSHeadRun.getT_eq s)
def looseP0 : List Str := ["MidError", "NoShare", "NoThing", "Empty", "Twice", "NoWidth", "place", "_law_at", "_law_right", "_law_refused", "_law_many", "_law_part"]
def looseN : List Str := looseP0
theorem runH (w : World) : HandSHeadRun.RunEq Rw (PySem.W.view Rw.prog [15]) hk obH 4000 looseN w := by
  intro os
  kernel_rfl
end Mp


namespace Mp
open PySem PySem.Spec PyProof.Rows L2
local macro_rules | `(tactic| walk_at "rd") => `(tactic| simp only [tSeq, tAsg, gName, tVar, tC, tOp, rI0, rI, tTest, tB, tIfS, tNext, tRet, tRetN, tDrop, tCons, tNil, tCallS, tCB, tAnd, tOr, tNot, tAndV, tOrV, tNotV, tUn, rU, tIf, tChain, gCons, gNil, tTup, tLst, List.length_cons, List.length_nil, Nat.reduceAdd, Nat.zero_add, PySem.sizeLine_eq, Nat.reduceLeDiff,
  List.getElem?_cons_zero, List.getElem?_cons_succ, Option.some.injEq, exists_eq_left', List.set_cons_zero, List.set_cons_succ, exists_eq_left, V.int.injEq, V.bl.injEq, V.ref.injEq, List.cons.injEq, and_true, true_and, and_assoc, exists_and_left, decide_eq_true_eq,
  rEq_int, rNe_int, cdiv_iff, cpow10, Int.reduceLT, Int.reduceLE, Int.reduceToNat, Int.reducePow, Int.reduceNeg, Int.reduceSub, Int.reduceAdd, Int.reduceMul, Nat.reducePow, Nat.reduceLT, Bool.not_eq_true', Bool.false_eq_true, if_true, if_false, not_true_eq_false, not_false_eq_true, ite_not, Bool.not_true, Bool.not_false, reduceCtorEq, ipI, tAug, isi_int_int, isi_int_bool, isi_bool_bool, Bool.true_eq_false, reduceIte])

/-! ### the place of a share: what the program computes -/
def spPlace (K : PySem.W.Frag) : Sp := fun vs H Q E => ∃ m p wh : Int, vs = [.int m, .int p, .int wh] ∧ (m.natAbs < 2 ^ 250 ∧ p.natAbs < 2 ^ 250) ∧
  (BadS p wh → E (.ref (He.ga K "NoShare")) none H) ∧ (¬ BadS p wh → ∀ H', Same H H' → Q (.int (placeM m p wh)) H')
section
variable {P : Program} {w : World} {K : PySem.W.Frag} {mg : Str → Option Value} {base : Heap}
theorem ok_place (T : Tx K mg) {fd : FuncData} (F : FnP K "place" "place" s_place (He.ga K "place") fd) : Fn P w K mg base 1 (He.ga K "place") P_place (spPlace K) := by
  refine fn_okX F sc_place (fun vs H Q E h => ?_) (fun _ _ _ _ _ _ us hl => match us, hl with | [_, _, _], _ => rfl) (fun cdv A outer s H vs Q E hr h => ?_)
  · obtain ⟨m, p, wh, rfl, _⟩ := h
    rfl
  · obtain ⟨m, p, wh, rfl, ⟨hm, hp⟩, hb, hg⟩ := h
    refine ⟨_, (pss_cons (ps_if (PW.pt (pw_or (pt_cmpR op_lt (pv 2) pe_int (nomark _)) (pw_or (pt_cmpR op_lt (pv 1) pe_int (nomark _)) (pw_or1 (pt_cmpR op_gt (pv 1) (pv 2) (nomark _)))))) (pss_one (ps_raise rfl (takes_of rfl rfl rfl rfl) (pmk_own PySem.F.excBase_ValueError T.xc_NoShare.1 T.g_NoShare T.xc_NoShare.2.1 (raises_own T.xc_NoShare.2.2.1 T.xc_NoShare.2.2.2) rfl))) pss_nil)
    (pss_cons (ps_if (pt_cmpR op_eq (pv 0) pe_int (nomark _)) (pss_one (ps_ret pe_int)) pss_nil)
    (pss_cons (ps_asg (pe_callB call_divmodW rfl T.z_divmod (by decide +kernel) (pa_cons (pe_op op_mulX (pv 0) (pv 1)) (pa_cons (pv 2) pa_nil))) (pg_tup rfl (pgs_cons (pg_name (i := 3) sc_place.nd rfl (Or.inl rfl)) (pgs_cons (pg_name (i := 4) sc_place.nd rfl (Or.inl rfl)) pgs_nil))))
    (pss_cons (ps_if (pt_cmpR op_gt (pv 4) pe_int (nomark _)) (pss_one (ps_aug (i := 3) sc_place.nd rfl (Or.inl rfl) pe_int ip_add)) pss_nil)
    (pss_one (ps_ret (pe_callB (call_max2 rfl) rfl T.z_max (by decide +kernel) (pa_cons pe_int (pa_cons (pv 3) pa_nil))))))))), ?_⟩
    rw [show start N_place [V.int m, V.int p, V.int wh] = [some (V.int m), some (V.int p), some (V.int wh), none, none] from rfl]
    walk_at "rd"
    by_cases c1 : wh < 1
    · rw [if_pos c1]
      exact hb (.inl c1)
    rw [if_neg c1]
    by_cases c2 : p < 0
    · rw [if_pos c2]
      exact hb (.inr (.inl c2))
    rw [if_neg c2]
    by_cases c3 : wh < p
    · rw [if_pos c3]
      exact hb (.inr (.inr c3))
    rw [if_neg c3]
    have g := hg (by unfold BadS; omega)
    by_cases c4 : m = 0
    · rw [if_pos c4]
      have := g H (Same.refl H)
      unfold placeM at this
      rw [if_pos c4] at this
      exact this
    rw [if_neg c4]
    refine ⟨mulx_ok hm hp (by decide), divp_small (by omega) (mul_small hm hp) (by decide), fun q hq => ?_⟩
    refine ⟨q, _, rfl, SqT.of upd_same, rfl, ?_⟩
    walk_at "rd"
    have s1 : Same H (upd H q (.tup [.int (m * p / wh), .int (m * p % wh)])) := fun b o e => by rw [upd_ne (ne_of_none e hq)]; exact e
    have g1 := g _ s1
    unfold placeM fullM at g1
    rw [if_neg c4] at g1
    by_cases c5 : 0 < m * p % wh
    · rw [if_pos c5] at g1
      rw [if_pos c5]
      exact g1
    · rw [if_neg c5] at g1
      rw [if_neg c5]
      exact g1
end
end Mp

namespace Mp
open PySem PySem.Spec PyProof.Rows L2
local macro_rules | `(tactic| walk_at "rd") => `(tactic| simp only [tSeq, tAsg, gName, tVar, tC, tOp, rI0, rI, tTest, tB, tIfS, tNext, tRet, tRetN, tDrop, tCons, tNil, tCallS, tCB, tAnd, tOr, tNot, tAndV, tOrV, tNotV, tUn, rU, tIf, tChain, gCons, gNil, tTup, tLst, List.length_cons, List.length_nil, Nat.reduceAdd, Nat.zero_add, PySem.sizeLine_eq, Nat.reduceLeDiff,
  List.getElem?_cons_zero, List.getElem?_cons_succ, Option.some.injEq, exists_eq_left', List.set_cons_zero, List.set_cons_succ, exists_eq_left, V.int.injEq, V.bl.injEq, V.ref.injEq, List.cons.injEq, and_true, true_and, and_assoc, exists_and_left, decide_eq_true_eq,
  rEq_int, rNe_int, cdiv_iff, cpow10, Int.reduceLT, Int.reduceLE, Int.reduceToNat, Int.reducePow, Int.reduceNeg, Int.reduceSub, Int.reduceAdd, Int.reduceMul, Nat.reducePow, Nat.reduceLT, Bool.not_eq_true', Bool.false_eq_true, if_true, if_false, not_true_eq_false, not_false_eq_true, ite_not, Bool.not_true, Bool.not_false, reduceCtorEq, ipI, tAug, isi_int_int, isi_int_bool, isi_bool_bool, Bool.true_eq_false, reduceIte])

/-! ### a cell of the script -/
def spAt (K : PySem.W.Frag) (a : Addr) (ns : List Int) : Sp := fun vs H Q _ => ∃ k : Int, vs = [.ref a, .int k] ∧ 0 ≤ k ∧ SqL K H a (ns.map V.int) ∧ Q (.int (ns.getD k.toNat 0)) H
section
variable {P : Program} {w : World} {K : PySem.W.Frag} {mg : Str → Option Value} {base : Heap}
theorem ok_law_at (T : Tx K mg) (a : Addr) (ns : List Int) {fd : FuncData} (F : FnP K "_law_at" "_law_at" s_law_at (He.ga K "_law_at") fd) : Fn P w K mg base 1 (He.ga K "_law_at") P_law_at (spAt K a ns) := by
  refine fn_ok F sc_law_at (fun vs H Q E h => ?_) (fun _ _ _ _ _ _ us hl => match us, hl with | [_, _], _ => rfl) (fun cdv A outer s H vs Q E hr h => ?_)
  · obtain ⟨k, rfl, _⟩ := h
    rfl
  · obtain ⟨k, rfl, hk, hS, hQ⟩ := h
    refine ⟨_, (pss_cons (ps_if (pt_cmpR op_lt (pv 1) (pe_callB call_len_seq rfl T.z_len PySem.boot_len (pa_cons (pv 0) pa_nil)) (nomark _)) (pss_one (ps_ret (pe_ix ix_list (pv 0) (pv 1) (fun _ _ => rfl)))) pss_nil)
    (pss_one (ps_ret pe_int))), ?_⟩
    rw [show start N_law_at [V.ref a, V.int k] = [some (V.ref a), some (V.int k)] from rfl]
    walk_at "rd"
    refine ⟨_, .inl hS, ?_⟩
    by_cases c : k < ((ns.map V.int).length : Int)
    · rw [if_pos c]
      exact ⟨a, _, _, _, rfl, rfl, hS, get_lt hk c, hQ⟩
    · rw [if_neg c]
      rw [List.length_map] at c
      have e : ns.getD k.toNat 0 = 0 := by rw [List.getD_eq_getElem?_getD, List.getElem?_eq_none (by omega)]; rfl
      rw [e] at hQ
      exact hQ
end

def rightM (f m p wh : Int) : Bool := if m = 0 then decide (f = 0) else if f < 1 then false else if m < f then false else if f * wh < m * p then false else (decide (f = 1) || decide ((f - 1) * wh < m * p))
def spRight : Sp := fun vs H Q _ => ∃ f m p wh : Int, vs = [.int f, .int m, .int p, .int wh] ∧ (f.natAbs < 2 ^ 250 ∧ m.natAbs < 2 ^ 250 ∧ p.natAbs < 2 ^ 250 ∧ wh.natAbs < 2 ^ 250) ∧ Q (.bl (rightM f m p wh)) H
def manyM (c wh ed : Int) : Int := if ed % 3 = 1 then (if c % 2 = 1 then c / 2 % (10 ^ 60 - 2) else c / 2 % 40) / wh * wh else (if c % 2 = 1 then c / 2 % (10 ^ 60 - 2) else c / 2 % 40)
def spMany : Sp := fun vs H Q _ => ∃ c wh ed : Int, vs = [.int c, .int wh, .int ed] ∧ (0 < wh ∧ wh.natAbs < 2 ^ 250) ∧ Q (.int (manyM c wh ed)) H
def partM (c wh : Int) : Int := if c % 5 = 1 then 0 else if c % 5 = 2 then wh else c / 5 % (wh + 1)
def spPart : Sp := fun vs H Q _ => ∃ c wh : Int, vs = [.int c, .int wh] ∧ 0 < wh ∧ Q (.int (partM c wh)) H
def spRefused : Sp := fun vs H Q _ => ∃ m p wh : Int, vs = [.int m, .int p, .int wh] ∧ (m.natAbs < 2 ^ 250 ∧ p.natAbs < 2 ^ 250) ∧ BadS p wh ∧ ∀ H', Same H H' → Q (.bl true) H'
section
variable {P : Program} {w : World} {K : PySem.W.Frag} {mg : Str → Option Value} {base : Heap}
theorem ok_law_many {fd : FuncData} (F : FnP K "_law_many" "_law_many" s_law_many (He.ga K "_law_many") fd) : Fn P w K mg base 1 (He.ga K "_law_many") P_law_many spMany := by
  refine fn_ok F sc_law_many (fun vs H Q E h => ?_) (fun _ _ _ _ _ _ us hl => match us, hl with | [_, _, _], _ => rfl) (fun cdv A outer s H vs Q E hr h => ?_)
  · obtain ⟨c, wh, ed, rfl, _⟩ := h
    rfl
  · obtain ⟨c, wh, ed, rfl, ⟨h1, h2⟩, hQ⟩ := h
    refine ⟨_, (pss_cons (ps_set (i := 3) sc_law_many.nd rfl (Or.inl rfl) (pe_op op_mod (pe_op op_fdiv (pv 0) pe_int) pe_int))
    (pss_cons (ps_if (pt_cmpR op_eq (pe_op op_mod (pv 0) pe_int) pe_int (nomark _)) (pss_one (ps_set (i := 3) sc_law_many.nd rfl (Or.inl rfl) (pe_op op_mod (pe_op op_fdiv (pv 0) pe_int) (pe_op op_sub (pe_op op_pow pe_int pe_int) pe_int)))) pss_nil)
    (pss_cons (ps_if (pt_cmpR op_eq (pe_op op_mod (pv 2) pe_int) pe_int (nomark _)) (pss_one (ps_ret (pe_op op_mulX (pe_op op_fdivW (pv 3) (pv 1)) (pv 1)))) pss_nil)
    (pss_one (ps_ret (pv 3)))))), ?_⟩
    rw [show start N_law_many [V.int c, V.int wh, V.int ed] = [some (V.int c), some (V.int wh), some (V.int ed), none] from rfl]
    walk_at "rd"
    have hd : ∀ z : Int, CDivW z wh := fun z => wide_div h1 h2 (by decide) (by decide)
    have hz : ∀ k : Int, 0 < k → k.natAbs < 2 ^ 250 → CMulX (c / 2 % k / wh) wh := fun k hk hb => by
      refine mulx_ok (a := 250) (b := 250) ?_ h2 (by decide)
      have z1 := Int.emod_nonneg (c / 2) (b := k) (by omega)
      have z2 := Int.emod_lt_of_pos (c / 2) hk
      have z3 : 0 ≤ c / 2 % k / wh := Int.ediv_nonneg z1 (by omega)
      have z4 : c / 2 % k / wh ≤ c / 2 % k := Int.ediv_le_self _ z1
      omega
    unfold manyM at hQ
    simp only [Int.reducePow, Int.reduceSub] at hQ
    by_cases e1 : c % 2 = 1
    · by_cases e2 : ed % 3 = 1
      · simp only [e1, e2, if_true] at hQ ⊢
        exact ⟨hd _, hz _ (by decide) (by decide), hQ⟩
      · simp only [e1, e2, if_true, if_false] at hQ ⊢
        exact hQ
    · by_cases e2 : ed % 3 = 1
      · simp only [e1, e2, if_true, if_false] at hQ ⊢
        exact ⟨hd _, hz _ (by decide) (by decide), hQ⟩
      · simp only [e1, e2, if_true, if_false] at hQ ⊢
        exact hQ
theorem ok_law_part {fd : FuncData} (F : FnP K "_law_part" "_law_part" s_law_part (He.ga K "_law_part") fd) : Fn P w K mg base 1 (He.ga K "_law_part") P_law_part spPart := by
  refine fn_ok F sc_law_part (fun vs H Q E h => ?_) (fun _ _ _ _ _ _ us hl => match us, hl with | [_, _], _ => rfl) (fun cdv A outer s H vs Q E hr h => ?_)
  · obtain ⟨c, wh, rfl, _⟩ := h
    rfl
  · obtain ⟨c, wh, rfl, h1, hQ⟩ := h
    refine ⟨_, (pss_cons (ps_if (pt_cmpR op_eq (pe_op op_mod (pv 0) pe_int) pe_int (nomark _)) (pss_one (ps_ret pe_int)) pss_nil)
    (pss_cons (ps_if (pt_cmpR op_eq (pe_op op_mod (pv 0) pe_int) pe_int (nomark _)) (pss_one (ps_ret (pv 1))) pss_nil)
    (pss_one (ps_ret (pe_op op_mod (pe_op op_fdiv (pv 0) pe_int) (pe_op op_add (pv 1) pe_int)))))), ?_⟩
    rw [show start N_law_part [V.int c, V.int wh] = [some (V.int c), some (V.int wh)] from rfl]
    walk_at "rd"
    unfold partM at hQ
    by_cases e1 : c % 5 = 1
    · rw [if_pos e1] at hQ ⊢
      exact hQ
    · rw [if_neg e1] at hQ ⊢
      by_cases e2 : c % 5 = 2
      · rw [if_pos e2] at hQ ⊢
        exact hQ
      · rw [if_neg e2] at hQ ⊢
        exact ⟨by omega, hQ⟩
theorem ok_law_right (T : Tx K mg) {fd : FuncData} (F : FnP K "_law_right" "_law_right" s_law_right (He.ga K "_law_right") fd) : Fn P w K mg base 1 (He.ga K "_law_right") P_law_right spRight := by
  refine fn_ok F sc_law_right (fun vs H Q E h => ?_) (fun _ _ _ _ _ _ us hl => match us, hl with | [_, _, _, _], _ => rfl) (fun cdv A outer s H vs Q E hr h => ?_)
  · obtain ⟨f, m, p, wh, rfl, _⟩ := h
    rfl
  · obtain ⟨f, m, p, wh, rfl, ⟨hf, hm, hp, hw⟩, hQ⟩ := h
    refine ⟨_, (pss_cons (ps_if (PW.pt (pw_or (pt_not (pt_val (pe_callB call_isi rfl T.z_isinstance (by decide +kernel) (pa_cons (pv 0) (pa_cons (pe_tyv "int" T.z_int) pa_nil))))) (pw_or1 (pt_val (pe_callB call_isi rfl T.z_isinstance (by decide +kernel) (pa_cons (pv 0) (pa_cons (pe_tyv "bool" T.z_bool) pa_nil))))))) (pss_one (ps_ret pe_bl)) pss_nil)
    (pss_cons (ps_if (pt_cmpR op_eq (pv 1) pe_int (nomark _)) (pss_one (ps_ret (pe_cmpR op_eq (pv 0) pe_int (nomark _)))) pss_nil)
    (pss_cons (ps_if (PW.pt (pw_or (pt_cmpR op_lt (pv 0) pe_int (nomark _)) (pw_or (pt_cmpR op_gt (pv 0) (pv 1) (nomark _)) (pw_or1 (pt_cmpR op_lt (pe_op op_mulX (pv 0) (pv 3)) (pe_op op_mulX (pv 1) (pv 2)) (nomark _)))))) (pss_one (ps_ret pe_bl)) pss_nil)
    (pss_one (ps_ret (pe_or (pe_cmpR op_eq (pv 0) pe_int (nomark _)) (pe_one (pe_cmpR op_lt (pe_op op_mulX (pe_op op_sub (pv 0) pe_int) (pv 3)) (pe_op op_mulX (pv 1) (pv 2)) (nomark _))))))))), ?_⟩
    rw [show start N_law_right [V.int f, V.int m, V.int p, V.int wh] = [some (V.int f), some (V.int m), some (V.int p), some (V.int wh)] from rfl]
    walk_at "rd"
    unfold rightM at hQ
    have m1 : CMulX f wh := mulx_ok hf hw (by decide)
    have m2 : CMulX m p := mulx_ok hm hp (by decide)
    have m3 : CMulX (f - 1) wh := mulx_ok (a := 251) (by omega) hw (by decide)
    by_cases c1 : m = 0
    · rw [if_pos c1] at hQ ⊢; exact hQ
    rw [if_neg c1] at hQ ⊢
    by_cases c2 : f < 1
    · rw [if_pos c2] at hQ ⊢; exact hQ
    rw [if_neg c2] at hQ ⊢
    by_cases c3 : m < f
    · rw [if_pos c3] at hQ ⊢; exact hQ
    rw [if_neg c3] at hQ ⊢
    refine ⟨m1, m2, ?_⟩
    by_cases c4 : f * wh < m * p
    · rw [if_pos c4] at hQ ⊢; exact hQ
    rw [if_neg c4] at hQ ⊢
    by_cases c5 : f = 1
    · rw [if_pos c5]
      rw [decide_eq_true c5, Bool.true_or] at hQ
      exact hQ
    · rw [if_neg c5]
      rw [decide_eq_false c5, Bool.false_or] at hQ
      exact ⟨m3, m2, hQ⟩
theorem ok_law_refused (T : Tx K mg) (F_place : Fn P w K mg base 1 (He.ga K "place") P_place (spPlace K)) {fd : FuncData} (F : FnP K "_law_refused" "_law_refused" s_law_refused (He.ga K "_law_refused") fd) : Fn P w K mg base 2 (He.ga K "_law_refused") P_law_refused spRefused := by
  refine fn_ok F sc_law_refused (fun vs H Q E h => ?_) (fun _ _ _ _ _ _ us hl => match us, hl with | [_, _, _], _ => rfl) (fun cdv A outer s H vs Q E hr h => ?_)
  · obtain ⟨m, p, wh, rfl, _⟩ := h
    rfl
  · obtain ⟨m, p, wh, rfl, ⟨hm, hp⟩, hB, hQ⟩ := h
    refine ⟨_, (pss_cons (ps_try_as (i := 3) (Wout := fun _ _ _ _ => False) rfl rfl sc_law_refused.nd rfl rfl ⟨rfl, by decide, Or.inl T.g_MidError⟩ takes0
      (fun W pn xe tk _ => (pss_one (ps_expr (pe_callF F_place hr T.g_place (fun σ => passAt tk σ) (pa_cons (pv 0) (pa_cons (pv 1) (pa_cons (pv 2) pa_nil)))))))
      (fun a oe cls d pn hz hf => (pss_cons (ps_set (i := 4) sc_law_refused.nd rfl (Or.inl rfl) (pe_callB (call_isET2 hz hf) rfl T.z_isinstance (by decide +kernel) (pa_cons (pv 3) (pa_cons (pe_tup (pa_cons (pe_clsv T.g_Empty) (pa_cons (pe_clsv T.g_NoThing) (pa_cons (pe_clsv T.g_NoWidth) (pa_cons (pe_clsv T.g_Twice) pa_nil))))) pa_nil))))
    (pss_one (ps_ret (pe_and (pe_callB (call_isE2 hz hf) rfl T.z_isinstance (by decide +kernel) (pa_cons (pv 3) (pa_cons (pe_clsv T.g_NoShare) pa_nil))) (pe_and (pe_callB (call_isE2 hz hf) rfl T.z_isinstance (by decide +kernel) (pa_cons (pv 3) (pa_cons (pe_tyv "ValueError" T.z_ValueError) pa_nil))) (pe_one (pe_not (pv 4))))))))))
    (pss_one (ps_ret pe_bl))), ?_⟩
    rw [show start N_law_refused [V.int m, V.int p, V.int wh] = [some (V.int m), some (V.int p), some (V.int wh), none, none] from rfl]
    walk_at "rd"
    exact ⟨m, p, wh, rfl, ⟨hm, hp⟩, fun _ => suite_ok T.em_NoShare T.xe_NoShare T.kn_NoShare T.ki_NoShare T.kv_NoShare (by show 3 < 5; decide) (by show 4 < 5; decide) (by decide) hQ, fun z => absurd hB z⟩
end
end Mp

namespace Mp
open PySem PySem.Spec PyProof.Rows L2
local macro_rules | `(tactic| walk_at "rd") => `(tactic| simp only [tSeq, tAsg, gName, tVar, tC, tOp, rI0, rI, tTest, tB, tIfS, tNext, tRet, tRetN, tDrop, tCons, tNil, tCallS, tCB, tAnd, tOr, tNot, tAndV, tOrV, tNotV, tUn, rU, tIf, tChain, gCons, gNil, tTup, tLst, List.length_cons, List.length_nil, Nat.reduceAdd, Nat.zero_add, PySem.sizeLine_eq, Nat.reduceLeDiff,
  List.getElem?_cons_zero, List.getElem?_cons_succ, Option.some.injEq, exists_eq_left', List.set_cons_zero, List.set_cons_succ, exists_eq_left, V.int.injEq, V.bl.injEq, V.ref.injEq, List.cons.injEq, and_true, true_and, and_assoc, exists_and_left, decide_eq_true_eq,
  rEq_int, rNe_int, cdiv_iff, cpow10, Int.reduceLT, Int.reduceLE, Int.reduceToNat, Int.reducePow, Int.reduceNeg, Int.reduceSub, Int.reduceAdd, Int.reduceMul, Nat.reducePow, Nat.reduceLT, Bool.not_eq_true', Bool.false_eq_true, if_true, if_false, not_true_eq_false, not_false_eq_true, ite_not, Bool.not_true, Bool.not_false, reduceCtorEq, ipI, tAug, isi_int_int, isi_int_bool, isi_bool_bool, Bool.true_eq_false, reduceIte])

def spLaw (K : PySem.W.Frag) : Sp := fun vs H Q _ => ∃ (a : Addr) (ns : List Int), vs = [.ref a] ∧ SqL K H a (ns.map V.int) ∧ ns.length ≤ 63 ∧ ∀ H', Q (.bl true) H'
theorem partM_le (c : Int) {wh : Int} (h : 0 < wh) : 0 ≤ partM c wh ∧ partM c wh ≤ wh := by
  unfold partM
  have z1 := Int.emod_nonneg (c / 5) (b := wh + 1) (by omega)
  have z2 := Int.emod_lt_of_pos (c / 5) (b := wh + 1) (by omega)
  split
  · omega
  · split <;> omega
theorem manyM_le (c ed : Int) {wh : Int} (h : 0 < wh) : 0 ≤ manyM c wh ed ∧ manyM c wh ed ≤ 10 ^ 60 := by
  unfold manyM
  have key : ∀ z : Int, 0 ≤ z → z ≤ 10 ^ 60 → 0 ≤ z / wh * wh ∧ z / wh * wh ≤ 10 ^ 60 := fun z h1 h2 => by
    have e := Int.mul_ediv_add_emod z wh
    have z1 := Int.emod_nonneg z (b := wh) (by omega)
    rw [Int.mul_comm] at e
    have z3 : 0 ≤ z / wh * wh := Int.mul_nonneg (Int.ediv_nonneg h1 (by omega)) (by omega)
    omega
  have k2 : 0 ≤ (if c % 2 = 1 then c / 2 % (10 ^ 60 - 2) else c / 2 % 40) ∧ (if c % 2 = 1 then c / 2 % (10 ^ 60 - 2) else c / 2 % 40) ≤ 10 ^ 60 := by split <;> omega
  split
  · exact key _ k2.1 k2.2
  · exact k2
theorem right_ok {m p wh : Int} (hm : 0 ≤ m) (h : ¬ BadS p wh) : rightM (placeM m p wh) m p wh = true := by
  unfold rightM
  by_cases e : m = 0
  · subst e
    rw [if_pos rfl, place_zero]
    rfl
  · obtain ⟨s1, s2, s3, s4⟩ := place_spec (m := m) (by omega) h
    rw [if_neg e, if_neg (by omega), if_neg (by omega), if_neg (by omega)]
    rcases s4 with s4 | s4
    · rw [decide_eq_true s4]; rfl
    · rw [decide_eq_true s4, Bool.or_true]
theorem iteF' {A B : Prop} (h : B) : if true = false then A else B := by
  rw [if_neg (by decide)]
  exact h
section
variable {P : Program} {w : World} {K : PySem.W.Frag} {mg : Str → Option Value} {base : Heap}
theorem ok_law (T : Tx K mg) (F_law_at0 : ∀ a ns, Fn P w K mg base 1 (He.ga K "_law_at") P_law_at (spAt K a ns)) (F_place : Fn P w K mg base 1 (He.ga K "place") P_place (spPlace K)) (F_law_refused : Fn P w K mg base 2 (He.ga K "_law_refused") P_law_refused spRefused)
    (F_law_many : Fn P w K mg base 1 (He.ga K "_law_many") P_law_many spMany) (F_law_part : Fn P w K mg base 1 (He.ga K "_law_part") P_law_part spPart) (F_law_right : Fn P w K mg base 1 (He.ga K "_law_right") P_law_right spRight)
    {fd : FuncData} (F : FnP K "law" "law" s_law (He.ga K "law") fd) : FnOk P w K mg base CX0 3 (He.ga K "law") fd P_law (spLaw K) := by
  refine fn_ok0 F sc_law (fun vs H Q E h => ?_) (fun cdv A outer s H vs Q E hr h => ?_)
  · obtain ⟨a, ns, rfl, _⟩ := h
    rfl
  · obtain ⟨a, ns, rfl, hS, hl, hQ⟩ := h
    have F_law_at := F_law_at0 a ns
    refine ⟨_, (pss_cons (ps_set (i := 1) sc_law.nd rfl (Or.inl rfl) (pe_op op_add pe_int (pe_op op_mod (pe_op op_fdiv (pe_callF F_law_at hr T.g__law_at (fun _ => nopass) (pa_cons (pv 0) (pa_cons pe_int pa_nil))) pe_int) pe_int)))
    (pss_cons (ps_if (pt_cmpR op_eq (pe_op op_mod (pe_callF F_law_at hr T.g__law_at (fun _ => nopass) (pa_cons (pv 0) (pa_cons pe_int pa_nil))) pe_int) pe_int (nomark _)) (pss_one (ps_set (i := 1) sc_law.nd rfl (Or.inl rfl) (pe_op op_add pe_int (pe_op op_mod (pe_op op_fdiv (pe_callF F_law_at hr T.g__law_at (fun _ => nopass) (pa_cons (pv 0) (pa_cons pe_int pa_nil))) pe_int) (pe_op op_pow pe_int pe_int))))) pss_nil)
    (pss_cons (ps_set (i := 2) sc_law.nd rfl (Or.inl rfl) (pe_callF F_law_part hr T.g__law_part (fun _ => nopass) (pa_cons (pe_callF F_law_at hr T.g__law_at (fun _ => nopass) (pa_cons (pv 0) (pa_cons pe_int pa_nil))) (pa_cons (pv 1) pa_nil))))
    (pss_cons (ps_set (i := 3) sc_law.nd rfl (Or.inl rfl) (pe_callF F_law_many hr T.g__law_many (fun _ => nopass) (pa_cons (pe_callF F_law_at hr T.g__law_at (fun _ => nopass) (pa_cons (pv 0) (pa_cons pe_int pa_nil))) (pa_cons (pv 1) (pa_cons (pe_callF F_law_at hr T.g__law_at (fun _ => nopass) (pa_cons (pv 0) (pa_cons pe_int pa_nil))) pa_nil)))))
    (pss_cons (ps_set (i := 4) sc_law.nd rfl (Or.inl rfl) (pe_op op_mod (pe_callF F_law_at hr T.g__law_at (fun _ => nopass) (pa_cons (pv 0) (pa_cons pe_int pa_nil))) (pe_op op_pow pe_int pe_int)))
    (pss_cons (ps_set (i := 5) sc_law.nd rfl (Or.inl rfl) (pe_ix ix_list (pe_lst (pa_cons (pe_tup (pa_cons (pe_op op_sub (pe_un un_neg pe_int) (pv 4)) (pa_cons (pv 1) pa_nil))) (pa_cons (pe_tup (pa_cons (pe_op op_add (pe_op op_add (pv 1) pe_int) (pv 4)) (pa_cons (pv 1) pa_nil))) (pa_cons (pe_tup (pa_cons (pv 2) (pa_cons (pe_un un_neg (pv 4)) pa_nil))) (pa_cons (pe_tup (pa_cons pe_int (pa_cons pe_int pa_nil))) pa_nil))))) (pe_op op_mod (pe_callF F_law_at hr T.g__law_at (fun _ => nopass) (pa_cons (pv 0) (pa_cons pe_int pa_nil))) pe_int) (fun _ _ => rfl)))
    (pss_cons (ps_if (PW.pt (pw_or (pt_not (pt_val (pe_callF F_law_refused hr T.g__law_refused (fun _ => nopass) (pa_cons (pv 3) (pa_cons (pe_ix ix_tup (pv 5) pe_int (fun _ _ => rfl)) (pa_cons (pe_ix ix_tup (pv 5) pe_int (fun _ _ => rfl)) pa_nil)))))) (pw_or1 (pt_not (pt_val (pe_callF F_law_refused hr T.g__law_refused (fun _ => nopass) (pa_cons pe_int (pa_cons (pe_ix ix_tup (pv 5) pe_int (fun _ _ => rfl)) (pa_cons (pe_ix ix_tup (pv 5) pe_int (fun _ _ => rfl)) pa_nil))))))))) (pss_one (ps_ret pe_bl)) pss_nil)
    (pss_cons (ps_set (i := 6) sc_law.nd rfl (Or.inl rfl) (pe_callF F_place hr T.g_place (fun _ => nopass) (pa_cons (pv 3) (pa_cons (pv 2) (pa_cons (pv 1) pa_nil)))))
    (pss_cons (ps_set (i := 7) sc_law.nd rfl (Or.inl rfl) (pe_callF F_place hr T.g_place (fun _ => nopass) (pa_cons (pe_op op_add (pv 3) pe_int) (pa_cons (pv 2) (pa_cons (pv 1) pa_nil)))))
    (pss_cons (ps_if (PW.pt (pw_or (pt_not (pt_val (pe_callF F_law_right hr T.g__law_right (fun _ => nopass) (pa_cons (pv 6) (pa_cons (pv 3) (pa_cons (pv 2) (pa_cons (pv 1) pa_nil))))))) (pw_or1 (pt_not (pt_val (pe_callF F_law_right hr T.g__law_right (fun _ => nopass) (pa_cons (pv 7) (pa_cons (pe_op op_add (pv 3) pe_int) (pa_cons (pv 2) (pa_cons (pv 1) pa_nil)))))))))) (pss_one (ps_ret pe_bl)) pss_nil)
    (pss_one (ps_ret (pe_and (pe_chain op_le op_le pe_int (pe_op op_sub (pv 7) (pv 6)) pe_int) (pe_and (pe_cmpR op_eq (pe_callF F_place hr T.g_place (fun _ => nopass) (pa_cons (pv 3) (pa_cons (pv 2) (pa_cons (pv 1) pa_nil)))) (pv 6) (nomark _)) (pe_one (pe_cmpR op_eq (pe_callF F_place hr T.g_place (fun _ => nopass) (pa_cons pe_int (pa_cons (pv 2) (pa_cons (pv 1) pa_nil)))) pe_int (nomark _))))))))))))))))), ?_⟩
    rw [show start N_law [V.ref a] = [some (V.ref a), none, none, none, none, none, none, none] from rfl]
    walk_at "rd"
    simp only [spAt, exists_eq_left', exists_eq_left, List.cons.injEq, V.ref.injEq, V.int.injEq, and_true, true_and, hS, Int.reduceLE, Int.reduceToNat, and_assoc, exists_and_left]
    have hK : (cxOf CX0 P w K mg base N_law (Str.ofString "law") (defScope s_law) (He.ga K (Str.ofString "law")) cdv A outer s H E).K = K := rfl
    rw [hK]
    have hw : ∀ k : Int, 0 < k → k ≤ 10 ^ 59 → 0 < 1 + ns.getD 1 0 / 2 % k ∧ 1 + ns.getD 1 0 / 2 % k ≤ 10 ^ 59 := fun k h1 h2 => by
      have z1 := Int.emod_nonneg (ns.getD 1 0 / 2) (b := k) (by omega)
      have z2 := Int.emod_lt_of_pos (ns.getD 1 0 / 2) h1
      omega
    have hi : ∀ k : Int, 0 ≤ ns.getD 3 0 % 4 ∧ ns.getD 3 0 % 4 < 4 := fun _ => by omega
    refine ite2 (fun _ => ?_) (fun _ => ?_)
    · have w1 := hw 100000000000000000000000000000000000000000000000000000000000 (by decide) (by decide)
      revert w1
      generalize 1 + ns.getD 1 0 / 2 % 100000000000000000000000000000000000000000000000000000000000 = wh
      intro w1
      obtain ⟨w0, w1⟩ := w1
      refine ⟨_, wh, rfl, w0, hS, hS, _, wh, _, rfl, ⟨w0, abs250 (by omega) (by omega)⟩, hS, ?_⟩
      obtain ⟨hp0, hp1⟩ := partM_le (ns.getD 2 0) w0
      obtain ⟨hm0, hm1⟩ := manyM_le (ns.getD 0 0) (ns.getD 5 0) w0
      revert hp0 hp1 hm0 hm1
      generalize partM (ns.getD 2 0) wh = p
      generalize manyM (ns.getD 0 0) wh (ns.getD 5 0) = m
      intro hp0 hp1 hm0 hm1
      walk_at "rd"
      intro q1 h1 q2 h2 q3 h3 q4 h4 q5 h5
      have s1 := same_new (o := .tup [V.int (-1 - ns.getD 4 0 % 10000000000000000000000000000000000000000000000000000000000), V.int wh]) h1
      have s2 := same_new (o := .tup [V.int (wh + 1 + ns.getD 4 0 % 10000000000000000000000000000000000000000000000000000000000), V.int wh]) h2
      have s3 := same_new (o := .tup [V.int p, V.int (-(ns.getD 4 0 % 10000000000000000000000000000000000000000000000000000000000))]) h3
      have s4 := same_new (o := .tup [V.int 0, V.int 0]) h4
      have s5 := same_new (o := .lst [V.ref q1, V.ref q2, V.ref q3, V.ref q4]) h5
      have pick : ∃ (q : Addr) (b0 b1 : Int), atI [V.ref q1, V.ref q2, V.ref q3, V.ref q4] (ns.getD 3 0 % 4) = some (V.ref q) ∧ (upd (upd (upd (upd (upd H q1 (.tup [V.int (-1 - ns.getD 4 0 % 10000000000000000000000000000000000000000000000000000000000), V.int wh])) q2 (.tup [V.int (wh + 1 + ns.getD 4 0 % 10000000000000000000000000000000000000000000000000000000000), V.int wh])) q3 (.tup [V.int p, V.int (-(ns.getD 4 0 % 10000000000000000000000000000000000000000000000000000000000))])) q4 (.tup [V.int 0, V.int 0])) q5 (.lst [V.ref q1, V.ref q2, V.ref q3, V.ref q4])) q = some (.tup [V.int b0, V.int b1]) ∧ BadS b0 b1 ∧ b0.natAbs < 2 ^ 250 := by
        have f1 : 0 ≤ ns.getD 4 0 % 10000000000000000000000000000000000000000000000000000000000 := by omega
        have f2 : ns.getD 4 0 % 10000000000000000000000000000000000000000000000000000000000 < 10000000000000000000000000000000000000000000000000000000000 := by omega
        have c : ns.getD 3 0 % 4 = 0 ∨ ns.getD 3 0 % 4 = 1 ∨ ns.getD 3 0 % 4 = 2 ∨ ns.getD 3 0 % 4 = 3 := by omega
        rcases c with c | c | c | c
        · exact ⟨q1, _, _, by rw [c]; rfl, s5 _ _ (s4 _ _ (s3 _ _ (s2 _ _ upd_same))), .inr (.inl (by omega)), by omega⟩
        · exact ⟨q2, _, _, by rw [c]; rfl, s5 _ _ (s4 _ _ (s3 _ _ upd_same)), .inr (.inr (by omega)), by omega⟩
        · exact ⟨q3, _, _, by rw [c]; rfl, s5 _ _ (s4 _ _ upd_same), .inl (by omega), by omega⟩
        · exact ⟨q4, _, _, by rw [c]; rfl, s5 _ _ upd_same, .inl (by decide), by decide⟩
      obtain ⟨q, b0, b1, eq, hq, hB, hb0⟩ := pick
      refine ⟨s5.seq (s4.seq (s3.seq (s2.seq (s1.seq hS)))), q5, _, _, _, rfl, rfl, SqL.of upd_same, eq, ?_⟩
      revert hq
      generalize (upd (upd (upd (upd (upd H q1 (.tup [V.int (-1 - ns.getD 4 0 % 10000000000000000000000000000000000000000000000000000000000), V.int wh])) q2 (.tup [V.int (wh + 1 + ns.getD 4 0 % 10000000000000000000000000000000000000000000000000000000000), V.int wh])) q3 (.tup [V.int p, V.int (-(ns.getD 4 0 % 10000000000000000000000000000000000000000000000000000000000))])) q4 (.tup [V.int 0, V.int 0])) q5 (.lst [V.ref q1, V.ref q2, V.ref q3, V.ref q4])) = H1
      intro hq
      have nB : ¬ BadS p wh := by unfold BadS; omega
      have bm : m.natAbs < 2 ^ 250 := by omega
      have bm1 : (m + 1).natAbs < 2 ^ 250 := by omega
      have bp : p.natAbs < 2 ^ 250 := by omega
      have bw : wh.natAbs < 2 ^ 250 := by omega
      refine ⟨q, _, _, _, rfl, rfl, SqT.of hq, rfl, q, _, _, _, rfl, rfl, SqT.of hq, rfl, ?_⟩
      refine ⟨m, b0, b1, rfl, ⟨bm, hb0⟩, hB, fun H2 e2 => ⟨true, rfl, iteF' ?_⟩⟩
      have hq2 := e2 _ _ hq
      refine ⟨q, _, _, _, rfl, rfl, SqT.of hq2, rfl, q, _, _, _, rfl, rfl, SqT.of hq2, rfl, ?_⟩
      refine ⟨0, b0, b1, rfl, ⟨by decide, hb0⟩, hB, fun H3 e3 => ⟨true, rfl, iteF' ?_⟩⟩
      obtain ⟨g1, g2⟩ := place_nn hm0 nB
      obtain ⟨g3, g4⟩ := place_nn (m := m + 1) (by omega) nB
      obtain ⟨g5, g6⟩ := place_succ hm0 nB
      refine ⟨m, p, wh, rfl, ⟨bm, bp⟩, fun z => absurd z nB, fun _ H4 e4 => ?_⟩
      refine ⟨m + 1, p, wh, rfl, ⟨bm1, bp⟩, fun z => absurd z nB, fun _ H5 e5 => ?_⟩
      refine ⟨_, m, p, wh, rfl, ⟨by omega, bm, bp, bw⟩, true, by rw [right_ok hm0 nB], iteF' ?_⟩
      refine ⟨_, m + 1, p, wh, rfl, ⟨by omega, bm1, bp, bw⟩, true, by rw [right_ok (m := m + 1) (by omega) nB], iteF' ?_⟩
      refine ⟨_, rfl, _, rfl, ?_⟩
      rw [if_pos (by omega), if_pos (by omega)]
      refine ⟨m, p, wh, rfl, ⟨bm, bp⟩, fun z => absurd z nB, fun _ H6 e6 => ?_⟩
      show rEq _ _ _ _
      rw [rEq_int]
      refine ⟨true, by simp, iteT ?_⟩
      refine ⟨0, p, wh, rfl, ⟨by decide, bp⟩, fun z => absurd z nB, fun _ H7 e7 => ?_⟩
      show rEq _ _ _ _
      rw [place_zero, rEq_int]
      exact hQ H7
    · have w1 := hw 12 (by decide) (by decide)
      revert w1
      generalize 1 + ns.getD 1 0 / 2 % 12 = wh
      intro w1
      obtain ⟨w0, w1⟩ := w1
      refine ⟨_, wh, rfl, w0, hS, hS, _, wh, _, rfl, ⟨w0, abs250 (by omega) (by omega)⟩, hS, ?_⟩
      obtain ⟨hp0, hp1⟩ := partM_le (ns.getD 2 0) w0
      obtain ⟨hm0, hm1⟩ := manyM_le (ns.getD 0 0) (ns.getD 5 0) w0
      revert hp0 hp1 hm0 hm1
      generalize partM (ns.getD 2 0) wh = p
      generalize manyM (ns.getD 0 0) wh (ns.getD 5 0) = m
      intro hp0 hp1 hm0 hm1
      walk_at "rd"
      intro q1 h1 q2 h2 q3 h3 q4 h4 q5 h5
      have s1 := same_new (o := .tup [V.int (-1 - ns.getD 4 0 % 10000000000000000000000000000000000000000000000000000000000), V.int wh]) h1
      have s2 := same_new (o := .tup [V.int (wh + 1 + ns.getD 4 0 % 10000000000000000000000000000000000000000000000000000000000), V.int wh]) h2
      have s3 := same_new (o := .tup [V.int p, V.int (-(ns.getD 4 0 % 10000000000000000000000000000000000000000000000000000000000))]) h3
      have s4 := same_new (o := .tup [V.int 0, V.int 0]) h4
      have s5 := same_new (o := .lst [V.ref q1, V.ref q2, V.ref q3, V.ref q4]) h5
      have pick : ∃ (q : Addr) (b0 b1 : Int), atI [V.ref q1, V.ref q2, V.ref q3, V.ref q4] (ns.getD 3 0 % 4) = some (V.ref q) ∧ (upd (upd (upd (upd (upd H q1 (.tup [V.int (-1 - ns.getD 4 0 % 10000000000000000000000000000000000000000000000000000000000), V.int wh])) q2 (.tup [V.int (wh + 1 + ns.getD 4 0 % 10000000000000000000000000000000000000000000000000000000000), V.int wh])) q3 (.tup [V.int p, V.int (-(ns.getD 4 0 % 10000000000000000000000000000000000000000000000000000000000))])) q4 (.tup [V.int 0, V.int 0])) q5 (.lst [V.ref q1, V.ref q2, V.ref q3, V.ref q4])) q = some (.tup [V.int b0, V.int b1]) ∧ BadS b0 b1 ∧ b0.natAbs < 2 ^ 250 := by
        have f1 : 0 ≤ ns.getD 4 0 % 10000000000000000000000000000000000000000000000000000000000 := by omega
        have f2 : ns.getD 4 0 % 10000000000000000000000000000000000000000000000000000000000 < 10000000000000000000000000000000000000000000000000000000000 := by omega
        have c : ns.getD 3 0 % 4 = 0 ∨ ns.getD 3 0 % 4 = 1 ∨ ns.getD 3 0 % 4 = 2 ∨ ns.getD 3 0 % 4 = 3 := by omega
        rcases c with c | c | c | c
        · exact ⟨q1, _, _, by rw [c]; rfl, s5 _ _ (s4 _ _ (s3 _ _ (s2 _ _ upd_same))), .inr (.inl (by omega)), by omega⟩
        · exact ⟨q2, _, _, by rw [c]; rfl, s5 _ _ (s4 _ _ (s3 _ _ upd_same)), .inr (.inr (by omega)), by omega⟩
        · exact ⟨q3, _, _, by rw [c]; rfl, s5 _ _ (s4 _ _ upd_same), .inl (by omega), by omega⟩
        · exact ⟨q4, _, _, by rw [c]; rfl, s5 _ _ upd_same, .inl (by decide), by decide⟩
      obtain ⟨q, b0, b1, eq, hq, hB, hb0⟩ := pick
      refine ⟨s5.seq (s4.seq (s3.seq (s2.seq (s1.seq hS)))), q5, _, _, _, rfl, rfl, SqL.of upd_same, eq, ?_⟩
      revert hq
      generalize (upd (upd (upd (upd (upd H q1 (.tup [V.int (-1 - ns.getD 4 0 % 10000000000000000000000000000000000000000000000000000000000), V.int wh])) q2 (.tup [V.int (wh + 1 + ns.getD 4 0 % 10000000000000000000000000000000000000000000000000000000000), V.int wh])) q3 (.tup [V.int p, V.int (-(ns.getD 4 0 % 10000000000000000000000000000000000000000000000000000000000))])) q4 (.tup [V.int 0, V.int 0])) q5 (.lst [V.ref q1, V.ref q2, V.ref q3, V.ref q4])) = H1
      intro hq
      have nB : ¬ BadS p wh := by unfold BadS; omega
      have bm : m.natAbs < 2 ^ 250 := by omega
      have bm1 : (m + 1).natAbs < 2 ^ 250 := by omega
      have bp : p.natAbs < 2 ^ 250 := by omega
      have bw : wh.natAbs < 2 ^ 250 := by omega
      refine ⟨q, _, _, _, rfl, rfl, SqT.of hq, rfl, q, _, _, _, rfl, rfl, SqT.of hq, rfl, ?_⟩
      refine ⟨m, b0, b1, rfl, ⟨bm, hb0⟩, hB, fun H2 e2 => ⟨true, rfl, iteF' ?_⟩⟩
      have hq2 := e2 _ _ hq
      refine ⟨q, _, _, _, rfl, rfl, SqT.of hq2, rfl, q, _, _, _, rfl, rfl, SqT.of hq2, rfl, ?_⟩
      refine ⟨0, b0, b1, rfl, ⟨by decide, hb0⟩, hB, fun H3 e3 => ⟨true, rfl, iteF' ?_⟩⟩
      obtain ⟨g1, g2⟩ := place_nn hm0 nB
      obtain ⟨g3, g4⟩ := place_nn (m := m + 1) (by omega) nB
      obtain ⟨g5, g6⟩ := place_succ hm0 nB
      refine ⟨m, p, wh, rfl, ⟨bm, bp⟩, fun z => absurd z nB, fun _ H4 e4 => ?_⟩
      refine ⟨m + 1, p, wh, rfl, ⟨bm1, bp⟩, fun z => absurd z nB, fun _ H5 e5 => ?_⟩
      refine ⟨_, m, p, wh, rfl, ⟨by omega, bm, bp, bw⟩, true, by rw [right_ok hm0 nB], iteF' ?_⟩
      refine ⟨_, m + 1, p, wh, rfl, ⟨by omega, bm1, bp, bw⟩, true, by rw [right_ok (m := m + 1) (by omega) nB], iteF' ?_⟩
      refine ⟨_, rfl, _, rfl, ?_⟩
      rw [if_pos (by omega), if_pos (by omega)]
      refine ⟨m, p, wh, rfl, ⟨bm, bp⟩, fun z => absurd z nB, fun _ H6 e6 => ?_⟩
      show rEq _ _ _ _
      rw [rEq_int]
      refine ⟨true, by simp, iteT ?_⟩
      refine ⟨0, p, wh, rfl, ⟨by decide, bp⟩, fun z => absurd z nB, fun _ H7 e7 => ?_⟩
      show rEq _ _ _ _
      rw [place_zero, rEq_int]
      exact hQ H7
end
end Mp

namespace Mp
open PySem PySem.Spec PyProof.Rows L2
theorem factsL {P : Program} {w : World} {K : PySem.W.Frag} {h : Heap} {mg : Str → Option Value} {f : Addr} (X : K.In h) (G : h.Ns mainGlobals mg) (hfa : mg ("law" : Str) = some (.ref f)) (c : SaysM fa fn fb K) :
    ∃ fd : FuncData, (∀ (s : Shared) (v : Value), BindsTo s fd ⟨[v], []⟩ [("_law_script", v)]) ∧ ∀ base : Heap, K.In base → base.Ns mainGlobals mg → FnOk P w K mg base CX0 3 f fd ["_law_script"] (spLaw K) := by
  have T := tx_of X G c
  obtain ⟨fd_place, D_place⟩ := c.d.def_ 0 (d := d_place) rfl
  obtain ⟨fd_law_at, D_law_at⟩ := c.d.def_ 1 (d := d_law_at) rfl
  obtain ⟨fd_law_right, D_law_right⟩ := c.d.def_ 2 (d := d_law_right) rfl
  obtain ⟨fd_law_refused, D_law_refused⟩ := c.d.def_ 3 (d := d_law_refused) rfl
  obtain ⟨fd_law_many, D_law_many⟩ := c.d.def_ 4 (d := d_law_many) rfl
  obtain ⟨fd_law_part, D_law_part⟩ := c.d.def_ 5 (d := d_law_part) rfl
  obtain ⟨fd_law, D_law⟩ := c.d.def_ 6 (d := d_law) rfl
  have e := hfa.symm.trans T.g_law
  cases e
  have b := FunD.bindsA (ps := ["_law_script"]) D_law fun _ _ _ _ _ _ us hl => match us, hl with | [_], _ => rfl
  refine ⟨fd_law, fun s v => b s [v] rfl, fun base _ _ => ?_⟩
  have F_law_at : ∀ a ns, Fn P w K mg base 1 _ P_law_at (spAt K a ns) := fun a ns => ok_law_at T a ns D_law_at
  have F_place := ok_place (P := P) (w := w) (base := base) T D_place
  have F_ref := ok_law_refused T F_place D_law_refused
  have F_many := ok_law_many (P := P) (w := w) (mg := mg) (base := base) D_law_many
  have F_part := ok_law_part (P := P) (w := w) (mg := mg) (base := base) D_law_part
  have F_right := ok_law_right (P := P) (w := w) (base := base) T D_law_right
  exact ok_law T F_law_at F_place F_ref F_many F_part F_right D_law
end Mp
open PySem PySem.W PySem.Calls PyProof.Rows
set_option maxRecDepth 100000 in
set_option maxHeartbeats 0 in
theorem PySem.Challenge.cw_midpile_k01_place_of_a_share_holds : PySem.Challenge.rw_midpile_k01_place_of_a_share.Holds := by
  w_on; o_law
  refine HandSHeadRun.head_any (r := OpenLaw.row PySem.Challenge.rw_midpile_k01_place_of_a_share) (q := view (OpenLaw.row PySem.Challenge.rw_midpile_k01_place_of_a_share).prog [15]) (H := Mp.hk) (ob := Mp.obH) (M := 4000) (loose := Mp.looseN) (d := HandSHeadRun.topDef (OpenLaw.row PySem.Challenge.rw_midpile_k01_place_of_a_share).prog 15) (kwd := []) Mp.obH_eq
    (by kernel_rfl) (fun s => by kernel_rfl) Mp.runH (by kernel_rfl) (by kernel_rfl) (by kernel_rfl) (by rfl) (by first | assumption | decide +kernel) (by decide +kernel) ⟨rfl, rfl, rfl, rfl, rfl, by decide +kernel⟩ ?hw ?hc
  case hw => w_witness2
  case hc =>
    refine L2.walk_ofE (l := PySem.Challenge.rw_midpile_k01_place_of_a_share) (n := 63) (k := 3) (x := "_law_script") (CX := L2.CX0) rfl (by decide) (by kernel_rfl) ⟨rfl, by decide, by decide⟩ ?F (fun _ _ _ _ z => z)
    intro w mg fa h Y G hmg0
    obtain ⟨K, KX, c⟩ := Y
    have hmg : mg ("law" : PySem.Str) = some (.ref fa) := by
      have e : (HandSHeadRun.topDef (OpenLaw.row PySem.Challenge.rw_midpile_k01_place_of_a_share).prog 15).name = ("law" : PySem.Str) := by kernel_rfl
      rw [← e]
      exact hmg0
    obtain ⟨fd, hb, hF⟩ := Mp.factsL (P := (PySem.Challenge.rw_midpile_k01_place_of_a_share).prog) (w := w) KX G hmg c
    exact ⟨K, fd, Mp.spLaw K, KX, hb, fun H a ns hl _ hS => ⟨a, ns, rfl, hS, hl, fun _ => rfl⟩, hF⟩


#print axioms PySem.Challenge.cw_midpile_k01_place_of_a_share_holds
