import PyProof.Rows.All
import Wide.All
import OpenK.AllK
import Wide.FinOn
import HandS.Dict
import HandS.WordsDict
import HandS.WordsList
import HandS.ForMost
import HandS.ForExc
import HandS.Wide
import HandS.WideBits
import HandS.Defaults
import HandS.IsInst
import HandS.ExcIs
import HandS.Deep
import HandS.TupLe
import HandS.SortRule
import HandS.HotCalls
import HandS.SuiteRaise
import HandS.HeadHook4
import HandS.HeadEnd
import HandS.Head2
import HandS.Walk
import HandS.CallSlots
import PySem.Challenge.RW_midpile_k06_whole_share_told
set_option Elab.async false
set_option linter.all false
set_option maxRecDepth 100000
set_option maxHeartbeats 8000000
/-! The mirror of a pile, and its mathematics. -/
namespace Mp
open PySem L2

abbrev T := Int × Int
/-- an entry: where the tuple stands, what it holds -/
abbrev En := Addr × T
abbrev Kvs := List (Key × V)
abbrev Sx := List En × Kvs

def lt2 (a b : T) : Bool := if a.1 = b.1 then decide (a.2 < b.2) else decide (a.1 < b.1)
def ah (t : Bool) (a b : T) : Bool := if t then lt2 b a else lt2 a b

theorem lt2_iff (a b : T) : lt2 a b = true ↔ a.1 < b.1 ∨ (a.1 = b.1 ∧ a.2 < b.2) := by
  unfold lt2
  split
  · rw [decide_eq_true_iff]; omega
  · rw [decide_eq_true_iff]; omega
theorem lt2_no (a b : T) : lt2 a b = false ↔ b.1 < a.1 ∨ (a.1 = b.1 ∧ b.2 ≤ a.2) := by
  rw [← Bool.not_eq_true, lt2_iff]; omega
theorem lt2_irr (a : T) : lt2 a a = false := (lt2_no a a).mpr (.inr ⟨rfl, Int.le_refl _⟩)
theorem lt2_asym {a b : T} (h : lt2 a b = true) : lt2 b a = false := by rw [lt2_iff] at h; rw [lt2_no]; omega
theorem lt2_ntr {a b c : T} (h : lt2 a b = false) (g : lt2 b c = false) : lt2 a c = false := by
  rw [lt2_no] at *; omega
theorem lt2_tri {a b : T} (h : lt2 a b = false) (g : lt2 b a = false) : a = b := by
  rw [lt2_no] at *
  exact Prod.ext (by omega) (by omega)
theorem ah_irr (t : Bool) (a : T) : ah t a a = false := by cases t <;> exact lt2_irr a
theorem ah_asym {t : Bool} {a b : T} (h : ah t a b = true) : ah t b a = false := by cases t <;> exact lt2_asym h
theorem ah_ntr {t : Bool} {a b c : T} (h : ah t a b = false) (g : ah t b c = false) : ah t a c = false := by
  cases t
  · exact lt2_ntr (a := a) (b := b) (c := c) h g
  · exact lt2_ntr (a := c) (b := b) (c := a) g h
theorem ah_tri {t : Bool} {a b : T} (h : ah t a b = false) (g : ah t b a = false) : a = b := by
  cases t
  · exact lt2_tri h g
  · exact lt2_tri g h

/-! ### lists by place -/
theorem gs {α : Type} {l : List α} {i j : Nat} {a : α} (h : i < l.length) : (l.set i a)[j]? = if j = i then some a else l[j]? := by
  rw [List.getElem?_set]
  by_cases e : i = j
  · subst e; simp [h]
  · rw [if_neg e, if_neg (Ne.symm e)]
theorem lt_of_get {α : Type} {l : List α} {i : Nat} {a : α} (h : l[i]? = some a) : i < l.length := (List.getElem?_eq_some_iff.mp h).1
theorem get_of_lt {α : Type} {l : List α} {i : Nat} (h : i < l.length) : ∃ a, l[i]? = some a := ⟨l[i], List.getElem?_eq_getElem h⟩
theorem mem_iff_get {α : Type} {l : List α} {a : α} : a ∈ l ↔ ∃ i : Nat, l[i]? = some a := List.mem_iff_getElem?
/-- two places swapped -/
theorem swap_perm {α : Type} {l : List α} {k q : Nat} {x y : α} (hk : k < l.length) (hq : l[q]? = some y) (ne : q ≠ k) : ((l.set k y).set q x).Perm (l.set k x) := by
  have h2 : q < (l.set k x).length := by rw [List.length_set]; exact lt_of_get hq
  have h3 : q < l.length := lt_of_get hq
  have e1 : (l.set k y).set q x = ((l.set k x).set k y).set q x := by rw [List.set_set]
  have e2 : (l.set k x)[k]'(by rw [List.length_set]; exact hk) = x := by simp
  have e3 : (l.set k x)[q]'h2 = y := by
    rw [List.getElem_set_ne (Ne.symm ne)]
    exact (List.getElem?_eq_some_iff.mp hq).2
  rw [e1]
  have p := List.set_set_perm (as := l.set k x) (i := k) (j := q) (by rw [List.length_set]; exact hk) h2
  rw [e2, e3] at p
  exact p

/-! ### the dict's keys -/
theorem mem_putK {kvs : Kvs} {k j : Key} {v : V} : j ∈ (putK kvs k v).map (·.1) ↔ j = k ∨ j ∈ kvs.map (·.1) := by
  unfold putK
  split
  · rename_i h
    have e : (kvs.map fun kv => if kv.1 = k then (kv.1, v) else kv).map (·.1) = kvs.map (·.1) := by
      rw [List.map_map]
      refine List.map_congr_left fun p _ => ?_
      show (if p.1 = k then (p.1, v) else p).1 = p.1
      split <;> rfl
    rw [e]
    refine ⟨.inr, fun h2 => h2.elim (fun z => ?_) id⟩
    subst z
    obtain ⟨p, hp, q⟩ := List.any_eq_true.mp h
    exact List.mem_map.mpr ⟨p, hp, of_decide_eq_true q⟩
  · rw [List.map_append, List.mem_append]
    simp only [List.map_cons, List.map_nil, List.mem_singleton]
    exact ⟨fun z => z.elim .inr .inl, fun z => z.elim .inr .inl⟩
theorem nd_put {kvs : Kvs} {k : Key} {v : V} (h : (kvs.map (·.1)).Nodup) : ((putK kvs k v).map (·.1)).Nodup := by
  unfold putK
  split
  · have e : (kvs.map fun kv => if kv.1 = k then (kv.1, v) else kv).map (·.1) = kvs.map (·.1) := by
      rw [List.map_map]
      refine List.map_congr_left fun p _ => ?_
      show (if p.1 = k then (p.1, v) else p).1 = p.1
      split <;> rfl
    rw [e]; exact h
  · rename_i h2
    rw [List.map_append]
    refine nd_snoc h fun m => h2 ?_
    obtain ⟨p, hp, q⟩ := List.mem_map.mp m
    exact List.any_eq_true.mpr ⟨p, hp, decide_eq_true q⟩
theorem len_putK (kvs : Kvs) (k : Key) (v : V) : (putK kvs k v).length ≤ kvs.length + 1 := by
  unfold putK
  split
  · rw [List.length_map]; omega
  · rw [List.length_append]; simp
theorem valV_iff {kvs : Kvs} {k : Key} : (∃ v, valV kvs k = some v) ↔ k ∈ kvs.map (·.1) := by
  constructor
  · rintro ⟨v, h⟩; exact valV_in h
  · intro h
    cases e : valV kvs k with
    | some v => exact ⟨v, rfl⟩
    | none => exact absurd h (valV_not e)
theorem valV_none_iff {kvs : Kvs} {k : Key} : valV kvs k = none ↔ k ∉ kvs.map (·.1) := by
  rw [← valV_iff]
  cases valV kvs k with
  | none => simp
  | some v => simp
theorem valV_drop (kvs : Kvs) (k j : Key) : valV (dropK kvs k) j = if j = k then none else valV kvs j := by
  induction kvs with
  | nil => simp [dropK, valV]
  | cons p r ih =>
    by_cases e : p.1 = k
    · rw [dropK_pos e, ih]
      by_cases z : j = k
      · rw [if_pos z, if_pos z]
      · rw [if_neg z, if_neg z, valV_neg (fun q => z (q.symm.trans e))]
    · rw [dropK_neg e]
      by_cases z : p.1 = j
      · rw [valV_pos z, valV_pos z, if_neg fun q => e (z.trans q)]
      · rw [valV_neg z, valV_neg z, ih]
theorem mem_dropK {kvs : Kvs} {k j : Key} : j ∈ (dropK kvs k).map (·.1) ↔ j ≠ k ∧ j ∈ kvs.map (·.1) := by
  rw [← valV_iff, valV_drop]
  by_cases e : j = k
  · rw [if_pos e]; simp [e]
  · rw [if_neg e, valV_iff]; simp [e]

/-! ### where agrees with things -/
structure Wf (es : List En) (kvs : Kvs) : Prop where
  nd : (es.map (·.2.2)).Nodup
  kn : (kvs.map (·.1)).Nodup
  ix : ∀ (i : Nat) (e : En), es[i]? = some e → valV kvs (Sum.inl e.2.2) = some (V.int i)
  ky : ∀ key ∈ kvs.map (·.1), ∃ e ∈ es, key = (Sum.inl e.2.2 : Key)
/-- .. but for the place k, where x is due -/
structure WfH (es : List En) (kvs : Kvs) (k : Nat) (x : En) : Prop where
  lt : k < es.length
  nd : ((es.set k x).map (·.2.2)).Nodup
  kn : (kvs.map (·.1)).Nodup
  ix : ∀ (i : Nat) (e : En), i ≠ k → es[i]? = some e → valV kvs (Sum.inl e.2.2) = some (V.int i)
  ky : ∀ key ∈ kvs.map (·.1), ∃ e ∈ es.set k x, key = (Sum.inl e.2.2 : Key)

theorem nd_ne {es : List En} (h : (es.map (·.2.2)).Nodup) {i j : Nat} {a b : En} (ha : es[i]? = some a) (hb : es[j]? = some b) (ne : i ≠ j) : a.2.2 ≠ b.2.2 := fun e =>
  ne (nd_ix h (x := a.2.2) (by rw [List.getElem?_map, ha]; rfl) (by rw [List.getElem?_map, hb, e]; rfl))
theorem nd_map : ∀ {l : List Int}, l.Nodup → (l.map (Sum.inl : Int → Key)).Nodup
  | [], _ => List.nodup_nil
  | a :: r, h => by
    obtain ⟨h1, h2⟩ := List.nodup_cons.mp h
    rw [List.map_cons]
    refine List.nodup_cons.mpr ⟨fun m => ?_, nd_map h2⟩
    obtain ⟨z, hz, q⟩ := List.mem_map.mp m
    exact h1 (Sum.inl.inj q ▸ hz)
theorem Wf.len {es : List En} {kvs : Kvs} (w : Wf es kvs) : kvs.length = es.length := by
  have p : (kvs.map (·.1)).Perm (es.map fun e => (Sum.inl e.2.2 : Key)) := by
    refine (List.perm_ext_iff_of_nodup w.kn ?_).mpr fun key => ⟨fun m => ?_, fun m => ?_⟩
    · have e : (es.map fun e => (Sum.inl e.2.2 : Key)) = (es.map (·.2.2)).map Sum.inl := by rw [List.map_map]; rfl
      rw [e]
      exact nd_map w.nd
    · obtain ⟨e, he, q⟩ := w.ky key m
      exact List.mem_map.mpr ⟨e, he, q.symm⟩
    · obtain ⟨e, he, q⟩ := List.mem_map.mp m
      obtain ⟨i, hi⟩ := mem_iff_get.mp he
      rw [← q]
      exact valV_in (w.ix i e hi)
  have := p.length_eq
  simpa using this
theorem Wf.find {es : List En} {kvs : Kvs} (w : Wf es kvs) {c : Int} {v : V} (h : valV kvs (Sum.inl c) = some v) : ∃ (i : Nat) (e : En), es[i]? = some e ∧ e.2.2 = c ∧ v = V.int i := by
  obtain ⟨e, he, q⟩ := w.ky _ (valV_in h)
  obtain ⟨i, hi⟩ := mem_iff_get.mp he
  have q := Sum.inl.inj q
  have z := w.ix i e hi
  rw [← q, h] at z
  exact ⟨i, e, hi, q.symm, Option.some.inj z⟩
theorem Wf.none {es : List En} {kvs : Kvs} (w : Wf es kvs) {c : Int} : valV kvs (Sum.inl c) = none ↔ ∀ e ∈ es, e.2.2 ≠ c := by
  rw [valV_none_iff]
  constructor
  · intro h e he z
    obtain ⟨i, hi⟩ := mem_iff_get.mp he
    exact h (z ▸ valV_in (w.ix i e hi))
  · intro h m
    obtain ⟨e, he, q⟩ := w.ky _ m
    exact h e he (Sum.inl.inj q).symm
/-- the hole moves from k to q -/
theorem WfH.move {es : List En} {kvs : Kvs} {k q : Nat} {x y : En} (w : WfH es kvs k x) (hq : es[q]? = some y) (ne : q ≠ k) : WfH (es.set k y) (putK kvs (Sum.inl y.2.2) (V.int k)) q x := by
  have p := swap_perm (x := x) w.lt hq ne
  have hlt := lt_of_get hq
  have dy : ∀ (i : Nat) (e : En), i ≠ k → i ≠ q → es[i]? = some e → e.2.2 ≠ y.2.2 := fun i e h1 h2 he =>
    nd_ne w.nd (i := i) (j := q) (by rw [gs w.lt, if_neg h1]; exact he) (by rw [gs w.lt, if_neg ne]; exact hq) h2
  refine ⟨by rw [List.length_set]; exact hlt, (p.map _).nodup_iff.mpr w.nd, nd_put w.kn, fun i e hi he => ?_, fun key m => ?_⟩
  · rw [gs w.lt] at he
    rw [valV_put]
    by_cases z : i = k
    · rw [if_pos z] at he
      cases he
      rw [if_pos rfl, z]
    · rw [if_neg z] at he
      rw [if_neg (fun h => dy i e z hi he (Sum.inl.inj h))]
      exact w.ix i e z he
  · rcases mem_putK.mp m with z | z
    · refine ⟨y, p.mem_iff.mpr ?_, z⟩
      exact mem_iff_get.mpr ⟨q, by rw [gs w.lt, if_neg ne]; exact hq⟩
    · obtain ⟨e, he, h⟩ := w.ky key z
      exact ⟨e, p.mem_iff.mpr he, h⟩
/-- x is laid -/
theorem WfH.lay {es : List En} {kvs : Kvs} {k : Nat} {x : En} (w : WfH es kvs k x) : Wf (es.set k x) (putK kvs (Sum.inl x.2.2) (V.int k)) := by
  refine ⟨w.nd, nd_put w.kn, fun i e he => ?_, fun key m => ?_⟩
  · rw [valV_put]
    have he' := he
    rw [gs w.lt] at he
    by_cases z : i = k
    · rw [if_pos z] at he
      cases he
      rw [if_pos rfl, z]
    · rw [if_neg z] at he
      rw [if_neg (fun h => nd_ne w.nd he' (j := k) (b := x) (by rw [gs w.lt, if_pos rfl]) z (Sum.inl.inj h))]
      exact w.ix i e z he
  · rcases mem_putK.mp m with z | z
    · exact ⟨x, mem_iff_get.mpr ⟨k, by rw [gs w.lt, if_pos rfl]⟩, z⟩
    · exact w.ky key z
/-- every place may be looked at as a hole for what stands there -/
theorem Wf.hole {es : List En} {kvs : Kvs} {k : Nat} {x : En} (w : Wf es kvs) (h : es[k]? = some x) : WfH es kvs k x := by
  have e : es.set k x = es := by
    refine List.ext_getElem? fun j => ?_
    rw [gs (lt_of_get h)]
    by_cases z : j = k
    · rw [if_pos z, z, h]
    · rw [if_neg z]
  exact ⟨lt_of_get h, by rw [e]; exact w.nd, w.kn, fun i e _ he => w.ix i e he, fun key m => by rw [e]; exact w.ky key m⟩

/-! ### the form -/
def Form (t : Bool) (es : List En) : Prop := ∀ (j : Nat) (a b : En), 1 ≤ j → es[j]? = some a → es[(j - 1) / 2]? = some b → ah t a.2 b.2 = false
/-- but for the edges at k -/
def FormX (t : Bool) (es : List En) (k : Nat) : Prop := ∀ (j : Nat) (a b : En), 1 ≤ j → j ≠ k → (j - 1) / 2 ≠ k → es[j]? = some a → es[(j - 1) / 2]? = some b → ah t a.2 b.2 = false
/-- the things below k aren't ahead of the one above k -/
def FormG (t : Bool) (es : List En) (k : Nat) : Prop := ∀ (j : Nat) (a b : En), 1 ≤ k → 1 ≤ j → (j - 1) / 2 = k → es[j]? = some a → es[(k - 1) / 2]? = some b → ah t a.2 b.2 = false
/-- the things below k aren't ahead of it -/
def FormD (t : Bool) (es : List En) (k : Nat) : Prop := ∀ (j : Nat) (a b : En), 1 ≤ j → (j - 1) / 2 = k → es[j]? = some a → es[k]? = some b → ah t a.2 b.2 = false
/-- the thing at k isn't ahead of the one above it -/
def FormU (t : Bool) (es : List En) (k : Nat) : Prop := ∀ (a b : En), 1 ≤ k → es[k]? = some a → es[(k - 1) / 2]? = some b → ah t a.2 b.2 = false
theorem form_of {t : Bool} {es : List En} {k : Nat} (hx : FormX t es k) (hd : FormD t es k) (hu : FormU t es k) : Form t es := fun j a b h1 ha hb => by
  by_cases e : j = k
  · subst e; exact hu a b h1 ha hb
  · by_cases e2 : (j - 1) / 2 = k
    · exact hd j a b h1 e2 ha (by rw [e2] at hb; exact hb)
    · exact hx j a b h1 e e2 ha hb
theorem Form.x {t : Bool} {es : List En} (f : Form t es) (k : Nat) : FormX t es k := fun j a b h1 _ _ ha hb => f j a b h1 ha hb
/-- a thing laid at k, in place of another: what is left of the form -/
theorem Form.lay {t : Bool} {es : List En} (f : Form t es) {k : Nat} {x : En} (hk : k < es.length) : FormX t (es.set k x) k ∧ FormG t (es.set k x) k := by
  constructor
  · intro j a b h1 h2 h3 ha hb
    rw [gs hk, if_neg h2] at ha
    rw [gs hk, if_neg h3] at hb
    exact f j a b h1 ha hb
  · intro j a b h1 h2 h3 ha hb
    rw [gs hk, if_neg (by omega)] at ha
    rw [gs hk, if_neg (by omega)] at hb
    obtain ⟨c, hc⟩ := get_of_lt hk
    exact ah_ntr (f j a c h2 ha (by rw [h3]; exact hc)) (f k c b h1 hc hb)
theorem form_nil (t : Bool) : Form t [] := fun j a b _ ha _ => by simp at ha
/-- the first is ahead of all -/
theorem Form.top {t : Bool} {es : List En} (f : Form t es) {x : En} (hx : es[0]? = some x) : ∀ (j : Nat) (a : En), es[j]? = some a → ah t a.2 x.2 = false := by
  intro j
  induction j using Nat.strongRecOn with
  | ind j ih =>
    intro a ha
    by_cases e : j = 0
    · subst e
      rw [hx] at ha; cases ha
      exact ah_irr t _
    · obtain ⟨b, hb⟩ := get_of_lt (l := es) (i := (j - 1) / 2) (by have := lt_of_get ha; omega)
      exact ah_ntr (f j a b (by omega) ha hb) (ih ((j - 1) / 2) (by omega) b hb)

/-! ### changed places -/
/-- outside the places P nothing has changed -/
def Out (o es : List En) (P : List Nat) : Prop := ∀ (i : Nat) (a b : En), i ∉ P → o[i]? = some a → es[i]? = some b → a.2 = b.2
/-- how many places hold another thing -/
def df (a b : List En) : Nat := (a.zip b).countP fun p => decide (p.1.2 ≠ p.2.2)
theorem df_self (a : List En) : df a a = 0 := by
  induction a with
  | nil => rfl
  | cons x r ih => simp [df, List.zip_cons_cons, List.countP_cons] at *; exact ih
theorem df_cons (x y : En) (a b : List En) : df (x :: a) (y :: b) = df a b + (if x.2 = y.2 then 0 else 1) := by
  unfold df
  rw [List.zip_cons_cons, List.countP_cons]
  by_cases e : x.2 = y.2 <;> simp [e]
theorem count_lt_mem (P : List Nat) : ∀ n, (List.range n).countP (fun i => decide (i ∈ P)) ≤ P.length := by
  induction P with
  | nil => intro n; simp
  | cons p r ih =>
    intro n
    have h1 : ∀ n, (List.range n).countP (fun i => decide (i ∈ p :: r)) ≤ (List.range n).countP (fun i => decide (i ∈ r)) + (if p < n then 1 else 0) := by
      intro n
      induction n with
      | zero => simp
      | succ n ihn =>
        rw [List.range_succ, List.countP_append, List.countP_append]
        simp only [List.countP_cons, List.countP_nil, Nat.zero_add, List.mem_cons, decide_eq_true_eq]
        by_cases e : n = p
        · subst e
          rw [if_pos (Or.inl rfl), if_pos (Nat.lt_succ_self _)]
          rw [if_neg (Nat.lt_irrefl _)] at ihn
          simp only [List.mem_cons, Nat.add_zero] at ihn
          omega
        · by_cases m : n ∈ r
          · rw [if_pos (Or.inr m), if_pos m]
            by_cases z : p < n
            · rw [if_pos z] at ihn; rw [if_pos (by omega)]; simp only [List.mem_cons] at ihn; omega
            · rw [if_neg z] at ihn; simp only [List.mem_cons] at ihn; omega
          · rw [if_neg (by simp [e, m]), if_neg m]
            by_cases z : p < n
            · rw [if_pos z] at ihn; rw [if_pos (by omega)]; simp only [List.mem_cons] at ihn; omega
            · rw [if_neg z] at ihn; simp only [List.mem_cons] at ihn; omega
    have h2 := h1 n
    have h3 := ih n
    rw [List.length_cons]
    split at h2 <;> omega
theorem df_range : ∀ (a b : List En), df a b = (List.range (min a.length b.length)).countP fun i => decide ((a.getD i default).2 ≠ (b.getD i default).2)
  | [], b => by simp [df]
  | _ :: _, [] => by simp [df]
  | x :: a, y :: b => by
    rw [df_cons, df_range a b]
    have e : min (x :: a).length (y :: b).length = min a.length b.length + 1 := by simp [Nat.succ_min_succ]
    rw [e, List.range_succ_eq_map, List.countP_cons, List.countP_map]
    congr 1
    by_cases z : x.2 = y.2 <;> simp [z]
theorem df_le {o es : List En} {P : List Nat} (h : Out o es P) : df o es ≤ P.length := by
  rw [df_range]
  refine Nat.le_trans (List.countP_mono_left fun i hi hq => ?_) (count_lt_mem P (min o.length es.length))
  refine decide_eq_true (Classical.byContradiction fun hn => ?_)
  have hi := List.mem_range.mp hi
  obtain ⟨a, ha⟩ := get_of_lt (l := o) (i := i) (by omega)
  obtain ⟨b, hb⟩ := get_of_lt (l := es) (i := i) (by omega)
  have q := of_decide_eq_true hq
  rw [List.getD_eq_getElem?_getD, List.getD_eq_getElem?_getD, ha, hb] at q
  exact q (h i a b hn ha hb)

/-! ### figures in twos -/
def bl (n : Nat) : Nat := if n = 0 then 0 else Nat.log2 n + 1
theorem bl_mono {n m : Nat} (h : n ≤ m) : bl n ≤ bl m := by
  unfold bl
  by_cases e : n = 0
  · rw [if_pos e]; omega
  · rw [if_neg e, if_neg (by omega)]
    have : n.log2 ≤ m.log2 := (Nat.le_log2 (by omega)).mpr (Nat.le_trans (Nat.log2_self_le e) h)
    omega
theorem log2_half {k : Nat} (h : 1 ≤ k) : ((k - 1) / 2 + 1).log2 + 1 = (k + 1).log2 := by
  have e : (k - 1) / 2 + 1 = (k + 1) / 2 := by omega
  rw [e]
  conv => rhs; rw [Nat.log2_def]
  rw [if_pos (by omega)]
theorem log2_lt_bl {k n : Nat} (h : k < n) : (k + 1).log2 + 1 ≤ bl n := by
  have := bl_mono (n := k + 1) (m := n) h
  unfold bl at this ⊢
  rw [if_neg (by omega)] at this
  exact this
end Mp

/-! The mirror of a pile's deeds, and what it does. -/
namespace Mp
open PySem L2
def gE (l : List En) (i : Nat) : En := l.getD i (0, 0, 0)
theorem gE_some {l : List En} {i : Nat} (h : i < l.length) : l[i]? = some (gE l i) := by
  unfold gE
  rw [List.getD_eq_getElem?_getD, List.getElem?_eq_getElem h]
  rfl
theorem gE_of {l : List En} {i : Nat} {e : En} (h : l[i]? = some e) : gE l i = e := by
  unfold gE
  rw [List.getD_eq_getElem?_getD, h]
  rfl
theorem gE_mem {l : List En} {i : Nat} (h : i < l.length) : gE l i ∈ l := mem_iff_get.mpr ⟨i, gE_some h⟩
def layM (s : Sx) (k : Nat) (e : En) : Sx := (s.1.set k e, putK s.2 (Sum.inl e.2.2) (V.int k))
theorem layM_len (s : Sx) (k : Nat) (e : En) : (layM s k e).1.length = s.1.length := List.length_set
theorem layM_kv (s : Sx) (k : Nat) (e : En) : (layM s k e).2.length ≤ s.2.length + 1 := len_putK _ _ _
/-- the thing x rises from the place k: the state, the last place -/
def riseM (t : Bool) (x : En) (s : Sx) (k : Nat) : Sx × Nat :=
  if h : 0 < k ∧ ah t x.2 (gE s.1 ((k - 1) / 2)).2 = true then riseM t x (layM s k (gE s.1 ((k - 1) / 2))) ((k - 1) / 2) else (layM s k x, k)
termination_by k
decreasing_by omega
def pick (t : Bool) (l : List En) (k : Nat) : Nat := if 2 * k + 1 + 1 < l.length ∧ ah t (gE l (2 * k + 1 + 1)).2 (gE l (2 * k + 1)).2 = true then 2 * k + 1 + 1 else 2 * k + 1
theorem pick_lt {t : Bool} {l : List En} {k : Nat} (h : 2 * k + 1 < l.length) : pick t l k < l.length := by
  unfold pick
  split
  · rename_i c; exact c.1
  · exact h
theorem pick_gt (t : Bool) (l : List En) (k : Nat) : k < pick t l k ∧ (pick t l k - 1) / 2 = k ∧ 1 ≤ pick t l k := by
  unfold pick
  split <;> omega
/-- the thing x sinks from the place k -/
def sinkM (t : Bool) (x : En) (s : Sx) (k : Nat) : Sx :=
  if h : 2 * k + 1 < s.1.length ∧ ah t (gE s.1 (pick t s.1 k)).2 x.2 = true then sinkM t x (layM s k (gE s.1 (pick t s.1 k))) (pick t s.1 k) else layM s k x
termination_by s.1.length - k
decreasing_by
  have h1 := pick_lt (t := t) h.1
  have h2 := (pick_gt t s.1 k).1
  rw [layM_len]
  omega

/-! ### what a hole keeps -/
/-- the state with a hole at k for x; o: the list ahead of the deed; P: the places that may have changed -/
structure HoleU (t : Bool) (o : List En) (P : List Nat) (D : Nat) (b : List En) (s : Sx) (k : Nat) (x : En) : Prop where
  wf : WfH s.1 s.2 k x
  pm : (s.1.set k x).Perm b
  out : Out o (s.1.set k x) P
  cnt : P.length + (k + 1).log2 ≤ D
  inP : ∀ j, k = j → j ∈ P ∨ o.length ≤ j
  fx : FormX t (s.1.set k x) k
  fg : FormG t (s.1.set k x) k
theorem hole_get {es : List En} {k : Nat} {x : En} (h : k < es.length) (j : Nat) : (es.set k x)[j]? = if j = k then some x else es[j]? := gs h
theorem swap_get {es : List En} {k q : Nat} {x y : En} (hk : k < es.length) (hq : q < es.length) (j : Nat) : ((es.set k y).set q x)[j]? = if j = q then some x else if j = k then some y else es[j]? := by
  rw [gs (by rw [List.length_set]; exact hq), gs hk]
/-- one step up -/
theorem HoleU.up {t : Bool} {o b : List En} {P : List Nat} {D : Nat} {s : Sx} {k : Nat} {x : En} (h : HoleU t o P D b s k x) (k0 : 0 < k) (ha : ah t x.2 (gE s.1 ((k - 1) / 2)).2 = true) :
    HoleU t o ((k - 1) / 2 :: P) D b (layM s k (gE s.1 ((k - 1) / 2))) ((k - 1) / 2) x ∧ FormD t ((layM s k (gE s.1 ((k - 1) / 2))).1.set ((k - 1) / 2) x) ((k - 1) / 2) := by
  obtain ⟨wf, pm, out, cnt, inP, fx, fg⟩ := h
  have hk := wf.lt
  have hq : (k - 1) / 2 < s.1.length := by omega
  have hy := gE_some hq
  revert ha hy
  generalize gE s.1 ((k - 1) / 2) = y
  intro ha hy
  have ne : (k - 1) / 2 ≠ k := by omega
  have w2 := wf.move hy ne
  have p2 := (swap_perm (x := x) hk hy ne).trans pm
  have hk0 := hole_get (x := x) hk
  have hs0 := swap_get (x := x) (y := y) hk hq
  refine ⟨⟨w2, p2, ?_, ?_, ?_, ?_, ?_⟩, ?_⟩
  · intro i a c hi hoa hc
    have i1 : i ≠ (k - 1) / 2 := fun z => hi (z ▸ List.mem_cons_self)
    have i2 : i ∉ P := fun z => hi (List.mem_cons_of_mem _ z)
    have i3 : i ≠ k := fun z => by
      rcases inP i z.symm with z2 | z2
      · exact i2 z2
      · have := lt_of_get hoa; omega
    show a.2 = c.2
    have hc2 : ((s.1.set k y).set ((k - 1) / 2) x)[i]? = some c := hc
    rw [hs0, if_neg i1, if_neg i3] at hc2
    exact out i a c i2 hoa (by rw [hk0, if_neg i3]; exact hc2)
  · have := log2_half (k := k) (by omega)
    rw [List.length_cons]
    omega
  · intro j e; exact .inl (e ▸ List.mem_cons_self)
  · intro j a c h1 h2 h3 haj hc
    have haj : ((s.1.set k y).set ((k - 1) / 2) x)[j]? = some a := haj
    have hc : ((s.1.set k y).set ((k - 1) / 2) x)[(j - 1) / 2]? = some c := hc
    rw [hs0, if_neg h2] at haj
    rw [hs0, if_neg h3] at hc
    by_cases e1 : j = k
    · subst e1; exact absurd rfl h3
    · rw [if_neg e1] at haj
      by_cases e2 : (j - 1) / 2 = k
      · rw [if_pos e2] at hc
        cases hc
        exact fg j a y (by omega) h1 e2 (by rw [hk0, if_neg e1]; exact haj) (by rw [hk0, if_neg ne]; exact hy)
      · rw [if_neg e2] at hc
        exact fx j a c h1 e1 e2 (by rw [hk0, if_neg e1]; exact haj) (by rw [hk0, if_neg e2]; exact hc)
  · intro j a c h1 h2 h3 haj hc
    have haj : ((s.1.set k y).set ((k - 1) / 2) x)[j]? = some a := haj
    have hc : ((s.1.set k y).set ((k - 1) / 2) x)[((k - 1) / 2 - 1) / 2]? = some c := hc
    rw [hs0, if_neg (by omega)] at haj
    rw [hs0, if_neg (by omega), if_neg (by omega)] at hc
    have qp : ah t y.2 c.2 = false := fx ((k - 1) / 2) y c h1 ne (by omega) (by rw [hk0, if_neg ne]; exact hy) (by rw [hk0, if_neg (by omega)]; exact hc)
    by_cases e1 : j = k
    · rw [if_pos e1] at haj
      cases haj
      exact qp
    · rw [if_neg e1] at haj
      exact ah_ntr (fx j a y h2 e1 (by omega) (by rw [hk0, if_neg e1]; exact haj) (by rw [h3, hk0, if_neg ne]; exact hy)) qp
  · intro j a c h1 h2 haj hc
    have haj : ((s.1.set k y).set ((k - 1) / 2) x)[j]? = some a := haj
    have hc : ((s.1.set k y).set ((k - 1) / 2) x)[(k - 1) / 2]? = some c := hc
    rw [hs0, if_pos rfl] at hc
    cases hc
    rw [hs0, if_neg (by omega)] at haj
    by_cases e1 : j = k
    · rw [if_pos e1] at haj
      cases haj
      exact ah_asym ha
    · rw [if_neg e1] at haj
      exact ah_ntr (fx j a y h1 e1 (by omega) (by rw [hk0, if_neg e1]; exact haj) (by rw [h2, hk0, if_neg ne]; exact hy)) (ah_asym ha)
/-- what rise leaves -/
structure RiseR (t : Bool) (o b : List En) (D : Nat) (r : Sx × Nat) (x : En) (k0 : Nat) : Prop where
  wf : Wf r.1.1 r.1.2
  pm : r.1.1.Perm b
  at_ : r.1.1[r.2]? = some x
  fx : FormX t r.1.1 r.2
  fg : FormG t r.1.1 r.2
  fu : FormU t r.1.1 r.2
  ch : ∃ P, Out o r.1.1 P ∧ P.length + (r.2 + 1).log2 ≤ D ∧ (r.2 ∈ P ∨ o.length ≤ r.2)
  mv : r.2 = k0 ∨ FormD t r.1.1 r.2
  le : r.2 ≤ k0
theorem riseM_ok (t : Bool) (x : En) (o b : List En) (D : Nat) (k0 : Nat) : ∀ (k : Nat) (s : Sx) (P : List Nat), HoleU t o P D b s k x → k ≤ k0 → (k = k0 ∨ FormD t (s.1.set k x) k) → RiseR t o b D (riseM t x s k) x k0 := by
  intro k
  induction k using Nat.strongRecOn with
  | ind k ih =>
    intro s P h hle hm
    rw [riseM]
    by_cases c : 0 < k ∧ ah t x.2 (gE s.1 ((k - 1) / 2)).2 = true
    · rw [dif_pos c]
      obtain ⟨h2, h3⟩ := h.up c.1 c.2
      exact ih ((k - 1) / 2) (by omega) _ _ h2 (by omega) (.inr h3)
    · rw [dif_neg c]
      have hk := h.wf.lt
      refine ⟨h.wf.lay, h.pm, ?_, h.fx, h.fg, ?_, ⟨P, h.out, h.cnt, h.inP k rfl⟩, hm, hle⟩
      · show (s.1.set k x)[k]? = some x
        rw [gs hk, if_pos rfl]
      · intro a c2 h1 haj hc
        have haj : (s.1.set k x)[k]? = some a := haj
        have hc : (s.1.set k x)[(k - 1) / 2]? = some c2 := hc
        rw [gs hk, if_pos rfl] at haj
        cases haj
        rw [gs hk, if_neg (by omega)] at hc
        have e := gE_of hc
        cases q : ah t x.2 c2.2 with
        | false => rfl
        | true => exact absurd ⟨by omega, by rw [e]; exact q⟩ c
theorem riseM_len (t : Bool) (x : En) : ∀ (k : Nat) (s : Sx), (riseM t x s k).1.1.length = s.1.length ∧ (riseM t x s k).2 ≤ k ∧ (riseM t x s k).1.2.length ≤ s.2.length + k + 1 ∧
    valV (riseM t x s k).1.2 (Sum.inl x.2.2) = some (V.int (riseM t x s k).2) := by
  intro k
  induction k using Nat.strongRecOn with
  | ind k ih =>
    intro s
    rw [riseM]
    by_cases c : 0 < k ∧ ah t x.2 (gE s.1 ((k - 1) / 2)).2 = true
    · rw [dif_pos c]
      obtain ⟨h1, h2, h3, h4⟩ := ih ((k - 1) / 2) (by omega) (layM s k (gE s.1 ((k - 1) / 2)))
      have := layM_kv s k (gE s.1 ((k - 1) / 2))
      exact ⟨h1.trans (layM_len _ _ _), by omega, by omega, h4⟩
    · rw [dif_neg c]
      refine ⟨layM_len _ _ _, Nat.le_refl _, by have := layM_kv s k x; show (layM s k x).2.length ≤ _; omega, ?_⟩
      show valV (putK s.2 (Sum.inl x.2.2) (V.int k)) (Sum.inl x.2.2) = _
      rw [valV_put, if_pos rfl]
/-- with no step up -/
theorem riseM_stay {t : Bool} {x : En} {s : Sx} {k : Nat} (h : (riseM t x s k).2 = k) : (riseM t x s k).1 = layM s k x := by
  rw [riseM] at h ⊢
  by_cases c : 0 < k ∧ ah t x.2 (gE s.1 ((k - 1) / 2)).2 = true
  · rw [dif_pos c] at h
    have := (riseM_len t x ((k - 1) / 2) (layM s k (gE s.1 ((k - 1) / 2)))).2.1
    omega
  · rw [dif_neg c]

/-! ### down -/
structure HoleD (t : Bool) (o : List En) (P : List Nat) (k0 : Nat) (b : List En) (s : Sx) (k : Nat) (x : En) : Prop where
  wf : WfH s.1 s.2 k x
  pm : (s.1.set k x).Perm b
  out : Out o (s.1.set k x) P
  cnt : P.length ≤ (k + 1).log2 + 1 + k0
  inP : k ∈ P
  fx : FormX t (s.1.set k x) k
  fg : FormG t (s.1.set k x) k
  fu : FormU t (s.1.set k x) k
theorem HoleD.down {t : Bool} {o b : List En} {P : List Nat} {k0 : Nat} {s : Sx} {k : Nat} {x : En} (h : HoleD t o P k0 b s k x) (hc0 : 2 * k + 1 < s.1.length) (ha : ah t (gE s.1 (pick t s.1 k)).2 x.2 = true) :
    HoleD t o (pick t s.1 k :: P) k0 b (layM s k (gE s.1 (pick t s.1 k))) (pick t s.1 k) x := by
  obtain ⟨wf, pm, out, cnt, inP, fx, fg, fu⟩ := h
  have hk := wf.lt
  have hq := pick_lt (t := t) hc0
  obtain ⟨g1, g2, g3⟩ := pick_gt t s.1 k
  have hy := gE_some hq
  have best : ∀ (j : Nat) (a : En), 1 ≤ j → (j - 1) / 2 = k → s.1[j]? = some a → ah t a.2 (gE s.1 (pick t s.1 k)).2 = false := by
    intro j a h1 h2 haj
    have ej : j = 2 * k + 1 ∨ j = 2 * k + 1 + 1 := by omega
    unfold pick
    split
    · rename_i c
      rcases ej with ej | ej
      · subst ej; rw [gE_of haj] at c; exact ah_asym c.2
      · subst ej; rw [gE_of haj]; exact ah_irr t _
    · rename_i c
      rcases ej with ej | ej
      · subst ej; rw [gE_of haj]; exact ah_irr t _
      · subst ej
        have hl := lt_of_get haj
        cases q : ah t a.2 (gE s.1 (2 * k + 1)).2 with
        | false => rfl
        | true => exact absurd ⟨hl, by rw [gE_of haj]; exact q⟩ c
  revert ha hy best g1 g2 g3 hq
  generalize hQ : pick t s.1 k = q
  generalize hY : gE s.1 q = y
  intro ha hq g1 g2 g3 hy best
  have ne : q ≠ k := by omega
  have w2 := wf.move hy ne
  have p2 := (swap_perm (x := x) hk hy ne).trans pm
  have hk0 := hole_get (x := x) hk
  have hs0 := swap_get (x := x) (y := y) hk hq
  refine ⟨w2, p2, ?_, ?_, List.mem_cons_self, ?_, ?_, ?_⟩
  · intro i a c hi hoa hc
    have i1 : i ≠ q := fun z => hi (z ▸ List.mem_cons_self)
    have i2 : i ∉ P := fun z => hi (List.mem_cons_of_mem _ z)
    have i3 : i ≠ k := fun z => i2 (z ▸ inP)
    have hc2 : ((s.1.set k y).set q x)[i]? = some c := hc
    rw [hs0, if_neg i1, if_neg i3] at hc2
    exact out i a c i2 hoa (by rw [hk0, if_neg i3]; exact hc2)
  · have := log2_half (k := q) g3
    rw [g2] at this
    rw [List.length_cons]
    omega
  · intro j a c h1 h2 h3 haj hc
    have haj : ((s.1.set k y).set q x)[j]? = some a := haj
    have hc : ((s.1.set k y).set q x)[(j - 1) / 2]? = some c := hc
    rw [hs0, if_neg h2] at haj
    rw [hs0, if_neg h3] at hc
    by_cases e1 : j = k
    · rw [if_pos e1] at haj
      cases haj
      subst e1
      rw [if_neg (by omega)] at hc
      exact fg q y c h1 (by omega) g2 (by rw [hk0, if_neg ne]; exact hy) (by rw [hk0, if_neg (by omega)]; exact hc)
    · rw [if_neg e1] at haj
      by_cases e2 : (j - 1) / 2 = k
      · rw [if_pos e2] at hc
        cases hc
        exact best j a h1 e2 haj
      · rw [if_neg e2] at hc
        exact fx j a c h1 e1 e2 (by rw [hk0, if_neg e1]; exact haj) (by rw [hk0, if_neg e2]; exact hc)
  · intro j a c h1 h2 h3 haj hc
    have haj : ((s.1.set k y).set q x)[j]? = some a := haj
    have hc : ((s.1.set k y).set q x)[(q - 1) / 2]? = some c := hc
    rw [hs0, if_neg (by omega), if_neg (by omega)] at haj
    rw [g2, hs0, if_neg (by omega), if_pos rfl] at hc
    cases hc
    exact fx j a y h2 (by omega) (by omega) (by rw [hk0, if_neg (by omega)]; exact haj) (by rw [h3, hk0, if_neg ne]; exact hy)
  · intro a c h1 haj hc
    have haj : ((s.1.set k y).set q x)[q]? = some a := haj
    have hc : ((s.1.set k y).set q x)[(q - 1) / 2]? = some c := hc
    rw [hs0, if_pos rfl] at haj
    cases haj
    rw [g2, hs0, if_neg (by omega), if_pos rfl] at hc
    cases hc
    exact ah_asym ha
structure SinkR (t : Bool) (o b : List En) (D : Nat) (s : Sx) : Prop where
  wf : Wf s.1 s.2
  pm : s.1.Perm b
  fm : Form t s.1
  ch : ∃ P, Out o s.1 P ∧ P.length ≤ D
theorem sinkM_ok (t : Bool) (x : En) (o b : List En) (k0 D : Nat) : ∀ (n k : Nat) (s : Sx) (P : List Nat), s.1.length - k ≤ n → HoleD t o P k0 b s k x → bl s.1.length + k0 ≤ D → SinkR t o b D (sinkM t x s k) := by
  intro n
  induction n with
  | zero =>
    intro k s P hn h _
    have := h.wf.lt
    omega
  | succ n ih =>
    intro k s P hn h hD
    rw [sinkM]
    by_cases c : 2 * k + 1 < s.1.length ∧ ah t (gE s.1 (pick t s.1 k)).2 x.2 = true
    · rw [dif_pos c]
      have h2 := h.down c.1 c.2
      have g := pick_gt t s.1 k
      exact ih _ _ _ (by rw [layM_len]; omega) h2 (by rw [layM_len]; exact hD)
    · rw [dif_neg c]
      have hk := h.wf.lt
      refine ⟨h.wf.lay, h.pm, form_of h.fx ?_ h.fu, ⟨P, h.out, ?_⟩⟩
      · intro j a c2 h1 h2 haj hc
        have haj : (s.1.set k x)[j]? = some a := haj
        have hc : (s.1.set k x)[k]? = some c2 := hc
        rw [gs hk, if_pos rfl] at hc
        cases hc
        rw [gs hk, if_neg (by omega)] at haj
        have hj := lt_of_get haj
        have ha : ah t (gE s.1 (pick t s.1 k)).2 x.2 = false := by
          cases q : ah t (gE s.1 (pick t s.1 k)).2 x.2 with
          | false => rfl
          | true => exact absurd ⟨by omega, q⟩ c
        have ej : j = 2 * k + 1 ∨ j = 2 * k + 1 + 1 := by omega
        have best : ah t a.2 (gE s.1 (pick t s.1 k)).2 = false := by
          unfold pick
          split
          · rename_i c
            rcases ej with ej | ej
            · subst ej; rw [gE_of haj] at c; exact ah_asym c.2
            · subst ej; rw [gE_of haj]; exact ah_irr t _
          · rename_i c
            rcases ej with ej | ej
            · subst ej; rw [gE_of haj]; exact ah_irr t _
            · subst ej
              cases q : ah t a.2 (gE s.1 (2 * k + 1)).2 with
              | false => rfl
              | true => exact absurd ⟨hj, by rw [gE_of haj]; exact q⟩ c
        exact ah_ntr best ha
      · have := log2_lt_bl hk
        have := h.cnt
        omega
theorem sinkM_len (t : Bool) (x : En) : ∀ (n k : Nat) (s : Sx), s.1.length - k ≤ n → (sinkM t x s k).1.length = s.1.length := by
  intro n
  induction n with
  | zero =>
    intro k s hn
    rw [sinkM, dif_neg (by omega)]
    exact layM_len _ _ _
  | succ n ih =>
    intro k s hn
    rw [sinkM]
    by_cases c : 2 * k + 1 < s.1.length ∧ ah t (gE s.1 (pick t s.1 k)).2 x.2 = true
    · rw [dif_pos c]
      have g := pick_gt t s.1 k
      rw [ih _ _ (by rw [layM_len]; omega), layM_len]
    · rw [dif_neg c]
      exact layM_len _ _ _

/-! ### put and take -/
structure PileOk (t : Bool) (s : Sx) : Prop where
  wf : Wf s.1 s.2
  fm : Form t s.1
def putM (t : Bool) (s : Sx) (x : En) : Sx := (riseM t x (s.1 ++ [x], s.2) s.1.length).1
theorem putM_ok {t : Bool} {s : Sx} {x : En} (h : PileOk t s) (hx : ∀ e ∈ s.1, e.2.2 ≠ x.2.2) : PileOk t (putM t s x) ∧ (putM t s x).1.Perm (x :: s.1) ∧ df s.1 (putM t s x).1 ≤ bl s.1.length := by
  have hl : (s.1 ++ [x]).length = s.1.length + 1 := by simp
  have hlt : s.1.length < (s.1 ++ [x]).length := by omega
  have e0 : (s.1 ++ [x])[s.1.length]? = some x := by simp
  have e1 : (s.1 ++ [x]).set s.1.length x = s.1 ++ [x] := by
    refine List.ext_getElem? fun j => ?_
    rw [gs hlt]
    by_cases z : j = s.1.length
    · rw [if_pos z, z, e0]
    · rw [if_neg z]
  have g1 : ∀ j, j ≠ s.1.length → (s.1 ++ [x])[j]? = s.1[j]? := fun j hj => by
    by_cases q : j < s.1.length
    · rw [List.getElem?_append_left q]
    · rw [List.getElem?_eq_none (by omega), List.getElem?_eq_none (by omega)]
  have hole : HoleU t s.1 [] (s.1.length + 1).log2 (x :: s.1) (s.1 ++ [x], s.2) s.1.length x := by
    refine ⟨⟨hlt, ?_, h.wf.kn, fun i e hi he => ?_, fun key m => ?_⟩, ?_, ?_, by simp, fun j e => .inr (by omega), ?_, ?_⟩
    · show (((s.1 ++ [x]).set s.1.length x).map (·.2.2)).Nodup
      rw [e1, List.map_append]
      refine nd_snoc h.wf.nd fun m => ?_
      obtain ⟨e, he, q⟩ := List.mem_map.mp m
      exact hx e he q
    · have he : (s.1 ++ [x])[i]? = some e := he
      rw [g1 i hi] at he
      exact h.wf.ix i e he
    · obtain ⟨e, he, q⟩ := h.wf.ky key m
      refine ⟨e, ?_, q⟩
      show e ∈ (s.1 ++ [x]).set s.1.length x
      rw [e1]
      exact List.mem_append_left _ he
    · show ((s.1 ++ [x]).set s.1.length x).Perm (x :: s.1)
      rw [e1]
      exact List.perm_append_comm.trans (List.Perm.refl _)
    · intro i a c _ ha hc
      have hc : ((s.1 ++ [x]).set s.1.length x)[i]? = some c := hc
      have hi := lt_of_get ha
      rw [e1, g1 i (by omega), ha] at hc
      cases hc; rfl
    · intro j a c h1 h2 h3 ha hc
      have ha : ((s.1 ++ [x]).set s.1.length x)[j]? = some a := ha
      have hc : ((s.1 ++ [x]).set s.1.length x)[(j - 1) / 2]? = some c := hc
      rw [e1, g1 j h2] at ha
      rw [e1, g1 _ h3] at hc
      exact h.fm j a c h1 ha hc
    · intro j a c h1 h2 h3 ha hc
      have ha : ((s.1 ++ [x]).set s.1.length x)[j]? = some a := ha
      rw [e1, g1 j (by omega)] at ha
      have := lt_of_get ha
      omega
  have r := riseM_ok t x s.1 (x :: s.1) _ s.1.length s.1.length _ _ hole (Nat.le_refl _) (.inl rfl)
  have hD : FormD t (putM t s x).1 (riseM t x (s.1 ++ [x], s.2) s.1.length).2 := by
    rcases r.mv with q | q
    · intro j a c h1 h2 ha hc
      have hj := lt_of_get ha
      have el : (putM t s x).1.length = s.1.length + 1 := ((riseM_len t x s.1.length (s.1 ++ [x], s.2)).1).trans hl
      rw [q] at h2
      omega
    · exact q
  refine ⟨⟨r.wf, form_of r.fx hD r.fu⟩, r.pm, ?_⟩
  obtain ⟨P, hP, hn, _⟩ := r.ch
  have h1 := df_le hP
  by_cases z : s.1.length = 0
  · have : s.1 = [] := List.eq_nil_of_length_eq_zero z
    show df s.1 _ ≤ _
    rw [this]
    simp [df]
  · have h2 : (s.1.length + 1).log2 ≤ bl s.1.length := by
      unfold bl
      rw [if_neg z, ← log2_half (k := s.1.length) (by omega)]
      have : ((s.1.length - 1) / 2 + 1).log2 ≤ s.1.length.log2 := (Nat.le_log2 (by omega)).mpr (Nat.le_trans (Nat.log2_self_le (by omega)) (by omega))
      omega
    show df s.1 (riseM t x (s.1 ++ [x], s.2) s.1.length).1.1 ≤ _
    omega
/-- the thing at `at_` goes: the last one is laid in its place -/
def takeM (t : Bool) (s : Sx) (at_ : Nat) : Sx :=
  let c := (gE s.1 at_).2.2
  let last := gE s.1 (s.1.length - 1)
  let l := s.1.dropLast
  let d := dropK s.2 (Sum.inl c)
  if at_ < l.length then
    let r := riseM t last (layM (l, d) at_ last) at_
    sinkM t last r.1 r.2
  else (l, d)
theorem takeM_ok {t : Bool} {s : Sx} {k : Nat} {e : En} (h : PileOk t s) (he : s.1[k]? = some e) : PileOk t (takeM t s k) ∧ (e :: (takeM t s k).1).Perm s.1 ∧ df s.1 (takeM t s k).1 ≤ bl (s.1.length - 1) := by
  have hk := lt_of_get he
  have eg : gE s.1 k = e := gE_of he
  have hll : s.1.dropLast.length = s.1.length - 1 := List.length_dropLast
  have gl : ∀ j, j < s.1.length - 1 → s.1.dropLast[j]? = s.1[j]? := fun j hj => by
    rw [List.getElem?_dropLast, if_pos hj]
  have gd : ∀ j a, s.1.dropLast[j]? = some a → s.1[j]? = some a ∧ j < s.1.length - 1 := fun j a ha => by
    have := lt_of_get ha
    rw [gl j (by omega)] at ha
    exact ⟨ha, by omega⟩
  have hlast : s.1[s.1.length - 1]? = some (gE s.1 (s.1.length - 1)) := gE_some (by omega)
  have happ : s.1 = s.1.dropLast ++ [gE s.1 (s.1.length - 1)] := by
    refine List.ext_getElem? fun j => ?_
    by_cases q : j < s.1.length - 1
    · rw [List.getElem?_append_left (by omega), gl j q]
    · by_cases q2 : j = s.1.length - 1
      · rw [q2, hlast, List.getElem?_append_right (by omega), hll]
        simp
      · rw [List.getElem?_eq_none (by omega), List.getElem?_eq_none (by simp; omega)]
  unfold takeM
  rw [eg]
  show PileOk t (if k < s.1.dropLast.length then _ else _) ∧ _
  by_cases c : k < s.1.dropLast.length
  · rw [if_pos c]
    revert hlast happ
    generalize gE s.1 (s.1.length - 1) = x
    intro hlast happ
    have nek : k ≠ s.1.length - 1 := by omega
    have ndl : ∀ (i j : Nat) (a b : En), s.1[i]? = some a → s.1[j]? = some b → i ≠ j → a.2.2 ≠ b.2.2 := fun i j a b ha hb ne => nd_ne h.wf.nd ha hb ne
    -- the list with x laid in place of e is a rearrangement of s.1 without e
    have hpm : (e :: s.1.dropLast.set k x).Perm s.1 := by
      have q : s.1.dropLast[k]? = some e := by rw [gl k (by omega)]; exact he
      obtain ⟨hk2, e2⟩ := List.getElem?_eq_some_iff.mp q
      have q3 : (s.1.dropLast.set k x ++ [e]).Perm (s.1.dropLast ++ [x]) := by
        have hsw := swap_perm (l := s.1.dropLast ++ [x]) (k := k) (q := s.1.dropLast.length) (x := e) (y := x) (by simp; omega) (by simp) (by omega)
        have r1 : ((s.1.dropLast ++ [x]).set k x).set s.1.dropLast.length e = s.1.dropLast.set k x ++ [e] := by
          rw [List.set_append_left _ _ hk2, List.set_append_right _ _ (by simp)]
          simp
        have r2 : (s.1.dropLast ++ [x]).set k e = s.1.dropLast ++ [x] := by
          refine List.ext_getElem? fun j => ?_
          rw [gs (by simp; omega)]
          by_cases z : j = k
          · rw [if_pos z, z, List.getElem?_append_left hk2, q]
          · rw [if_neg z]
        rw [r1, r2] at hsw
        exact hsw
      have q4 : (e :: s.1.dropLast.set k x).Perm (s.1.dropLast.set k x ++ [e]) := (List.perm_append_comm (l₁ := [e]) (l₂ := s.1.dropLast.set k x))
      rw [happ] at *
      simp only [List.dropLast_concat] at *
      exact q4.trans q3
    have wfH : WfH s.1.dropLast (dropK s.2 (Sum.inl e.2.2)) k x := by
      have ndp : ((e :: s.1.dropLast.set k x).map (·.2.2)).Nodup := (hpm.map _).nodup_iff.mpr h.wf.nd
      refine ⟨c, (List.nodup_cons.mp ndp).2, nd_dropK h.wf.kn, fun i a hi ha => ?_, fun key m => ?_⟩
      · obtain ⟨ha2, _⟩ := gd i a ha
        rw [valV_drop, if_neg (fun z => ndl i k a e ha2 he hi (Sum.inl.inj z))]
        exact h.wf.ix i a ha2
      · obtain ⟨z1, z2⟩ := mem_dropK.mp m
        obtain ⟨a, ha, q⟩ := h.wf.ky key z2
        refine ⟨a, ?_, q⟩
        have : a ∈ e :: s.1.dropLast.set k x := hpm.mem_iff.mpr ha
        rcases List.mem_cons.mp this with r | r
        · subst r; exact absurd q z1
        · exact r
    have fdl : Form t s.1.dropLast := fun j a b h1 ha hb => h.fm j a b h1 (gd j a ha).1 (gd _ b hb).1
    have e3 : ∀ (l : List En) (d : Kvs), (layM (l, d) k x).1 = l.set k x := fun _ _ => rfl
    have wf2 : Wf (layM (s.1.dropLast, dropK s.2 (Sum.inl e.2.2)) k x).1 (layM (s.1.dropLast, dropK s.2 (Sum.inl e.2.2)) k x).2 := wfH.lay
    have hx2 : (layM (s.1.dropLast, dropK s.2 (Sum.inl e.2.2)) k x).1[k]? = some x := by rw [e3, gs c, if_pos rfl]
    have e4 : (layM (s.1.dropLast, dropK s.2 (Sum.inl e.2.2)) k x).1.set k x = s.1.dropLast.set k x := by rw [e3, List.set_set]
    obtain ⟨fx, fg⟩ := fdl.lay (x := x) c
    have out0 : Out s.1 (s.1.dropLast.set k x) [k] := fun i a b hi ha hb => by
      rw [gs c, if_neg (fun z => hi (by simp [z]))] at hb
      rw [(gd i b hb).1] at ha
      cases ha; rfl
    have hole : HoleU t s.1 [k] (1 + (k + 1).log2) (s.1.dropLast.set k x) (layM (s.1.dropLast, dropK s.2 (Sum.inl e.2.2)) k x) k x := by
      refine ⟨wf2.hole hx2, by rw [e4], by rw [e4]; exact out0, by simp, fun j z => .inl (by simp [z]), by rw [e4]; exact fx, by rw [e4]; exact fg⟩
    have r := riseM_ok t x s.1 _ _ k k _ _ hole (Nat.le_refl _) (.inl rfl)
    have rl := riseM_len t x k (layM (s.1.dropLast, dropK s.2 (Sum.inl e.2.2)) k x)
    have st := @riseM_stay t x (layM (s.1.dropLast, dropK s.2 (Sum.inl e.2.2)) k x) k
    revert r rl st
    generalize riseM t x (layM (s.1.dropLast, dropK s.2 (Sum.inl e.2.2)) k x) k = R
    intro r rl st
    have rlen : R.1.1.length = s.1.length - 1 := rl.1.trans ((layM_len _ _ _).trans hll)
    have e5 : R.1.1.set R.2 x = R.1.1 := by
      refine List.ext_getElem? fun j => ?_
      rw [gs (lt_of_get r.at_)]
      by_cases z : j = R.2
      · rw [if_pos z, z, r.at_]
      · rw [if_neg z]
    have fin : SinkR t s.1 (s.1.dropLast.set k x) (bl (s.1.length - 1)) (sinkM t x R.1 R.2) := by
      rcases r.mv with q | q
      · -- no step up
        have eR := st q
        have hD : HoleD t s.1 [k] 0 (s.1.dropLast.set k x) R.1 R.2 x := by
          refine ⟨r.wf.hole r.at_, by rw [e5]; exact r.pm, ?_, by simp, by rw [q]; simp, by rw [e5]; exact r.fx, by rw [e5]; exact r.fg, by rw [e5]; exact r.fu⟩
          rw [e5, eR]
          show Out s.1 ((layM (s.1.dropLast, dropK s.2 (Sum.inl e.2.2)) k x).1.set k x) [k]
          rw [e4]
          exact out0
        exact sinkM_ok t x s.1 _ 0 _ _ _ _ _ (Nat.le_refl _) hD (by rw [rlen]; exact Nat.le_refl _)
      · -- moved up: nothing sinks
        obtain ⟨P, hP, hn, _⟩ := r.ch
        have noSink : sinkM t x R.1 R.2 = layM R.1 R.2 x := by
          rw [sinkM]
          refine dif_neg fun ⟨c1, c2⟩ => ?_
          obtain ⟨g1, g2, g3⟩ := pick_gt t R.1.1 R.2
          have := q (pick t R.1.1 R.2) _ x g3 g2 (gE_some (pick_lt c1)) r.at_
          rw [this] at c2
          cases c2
        rw [noSink]
        have e6 : (layM R.1 R.2 x).1 = R.1.1 := e5
        refine ⟨?_, by rw [e6]; exact r.pm, by rw [e6]; exact form_of r.fx q r.fu, ⟨P, by rw [e6]; exact hP, ?_⟩⟩
        · exact (r.wf.hole r.at_).lay
        · have := log2_lt_bl (k := k) (n := s.1.length - 1) (by omega)
          omega
    refine ⟨⟨fin.wf, fin.fm⟩, (List.Perm.cons e fin.pm).trans hpm, ?_⟩
    obtain ⟨P, hP, hn⟩ := fin.ch
    exact Nat.le_trans (df_le hP) hn
  · rw [if_neg c]
    have ek : k = s.1.length - 1 := by omega
    have ee : gE s.1 (s.1.length - 1) = e := by rw [← ek]; exact eg
    rw [ee] at happ
    have hpm : (e :: s.1.dropLast).Perm s.1 := by
      conv => rhs; rw [happ]
      exact List.perm_append_comm (l₁ := [e]) (l₂ := s.1.dropLast)
    refine ⟨⟨⟨?_, nd_dropK h.wf.kn, fun i a ha => ?_, fun key m => ?_⟩, fun j a b h1 ha hb => h.fm j a b h1 (gd j a ha).1 (gd _ b hb).1⟩, hpm, ?_⟩
    · have ndp : ((e :: s.1.dropLast).map (·.2.2)).Nodup := (hpm.map _).nodup_iff.mpr h.wf.nd
      exact (List.nodup_cons.mp ndp).2
    · obtain ⟨ha2, hi⟩ := gd i a ha
      rw [valV_drop, if_neg (fun z => nd_ne h.wf.nd ha2 he (by omega) (Sum.inl.inj z))]
      exact h.wf.ix i a ha2
    · obtain ⟨z1, z2⟩ := mem_dropK.mp m
      obtain ⟨a, ha, q⟩ := h.wf.ky key z2
      refine ⟨a, ?_, q⟩
      have : a ∈ e :: s.1.dropLast := hpm.mem_iff.mpr ha
      rcases List.mem_cons.mp this with r | r
      · subst r; exact absurd q z1
      · exact r
    · have : Out s.1 s.1.dropLast [] := fun i a b _ ha hb => by
        rw [(gd i b hb).1] at ha
        cases ha; rfl
      exact Nat.le_trans (df_le this) (Nat.zero_le _)
end Mp

/-! The place of a share: what the program computes, and its mathematics. -/
namespace Mp
def BadS (p wh : Int) : Prop := wh < 1 ∨ p < 0 ∨ wh < p
def fullM (m p wh : Int) : Int := if 0 < m * p % wh then m * p / wh + 1 else m * p / wh
def placeM (m p wh : Int) : Int := if m = 0 then 0 else if 1 < fullM m p wh then fullM m p wh else 1
theorem full_spec {m p wh : Int} (h : 0 < wh) : (fullM m p wh - 1) * wh < m * p ∧ m * p ≤ fullM m p wh * wh := by
  unfold fullM
  have e := Int.mul_ediv_add_emod (m * p) wh
  have z1 := Int.emod_nonneg (m * p) (b := wh) (by omega)
  have z2 := Int.emod_lt_of_pos (m * p) h
  rw [Int.mul_comm] at e
  split
  · rw [Int.add_sub_cancel, Int.add_mul]
    omega
  · rw [Int.sub_mul]
    omega
theorem lt_of_mul {a b wh : Int} (h : 0 < wh) (g : a * wh < b * wh) : a < b := Int.lt_of_mul_lt_mul_right g (Int.le_of_lt h)
theorem place_spec {m p wh : Int} (hm : 0 < m) (h : ¬ BadS p wh) : 1 ≤ placeM m p wh ∧ placeM m p wh ≤ m ∧ m * p ≤ placeM m p wh * wh ∧ (placeM m p wh = 1 ∨ (placeM m p wh - 1) * wh < m * p) := by
  unfold BadS at h
  have h1 : 0 < wh := by omega
  obtain ⟨s1, s2⟩ := full_spec (m := m) (p := p) h1
  have hle : fullM m p wh ≤ m := by
    have k : m * p ≤ m * wh := Int.mul_le_mul_of_nonneg_left (by omega) (by omega)
    have := lt_of_mul h1 (Int.lt_of_lt_of_le s1 k)
    omega
  unfold placeM
  rw [if_neg (by omega)]
  split
  · exact ⟨by omega, hle, s2, .inr s1⟩
  · refine ⟨by omega, by omega, ?_, .inl rfl⟩
    have : fullM m p wh * wh ≤ 1 * wh := Int.mul_le_mul_of_nonneg_right (by omega) (by omega)
    omega
theorem place_uniq {m p wh k : Int} (hm : 0 < m) (h : ¬ BadS p wh) (k1 : 1 ≤ k) (k2 : m * p ≤ k * wh) (k3 : k = 1 ∨ (k - 1) * wh < m * p) : k = placeM m p wh := by
  obtain ⟨s1, s2, s3, s4⟩ := place_spec hm h
  have h1 : 0 < wh := by unfold BadS at h; omega
  have a : k ≤ placeM m p wh := by
    rcases k3 with k3 | k3
    · omega
    · have := lt_of_mul h1 (Int.lt_of_lt_of_le k3 s3)
      omega
  have b : placeM m p wh ≤ k := by
    rcases s4 with s4 | s4
    · omega
    · have := lt_of_mul h1 (Int.lt_of_lt_of_le s4 k2)
      omega
  omega
theorem place_zero (p wh : Int) : placeM 0 p wh = 0 := if_pos rfl
theorem place_nn {m p wh : Int} (hm : 0 ≤ m) (h : ¬ BadS p wh) : 0 ≤ placeM m p wh ∧ placeM m p wh ≤ m := by
  by_cases e : m = 0
  · subst e; rw [place_zero]; omega
  · obtain ⟨a, b, _, _⟩ := place_spec (m := m) (by omega) h
    omega
theorem place_succ {m p wh : Int} (hm : 0 ≤ m) (h : ¬ BadS p wh) : placeM m p wh ≤ placeM (m + 1) p wh ∧ placeM (m + 1) p wh ≤ placeM m p wh + 1 := by
  have h1 : 0 < wh := by unfold BadS at h; omega
  obtain ⟨t1, t2, t3, t4⟩ := place_spec (m := m + 1) (by omega) h
  by_cases e : m = 0
  · subst e; rw [place_zero]; omega
  · obtain ⟨s1, s2, s3, s4⟩ := place_spec (m := m) (by omega) h
    have hp : 0 ≤ p ∧ p ≤ wh := by unfold BadS at h; omega
    rw [Int.add_mul, Int.one_mul] at t3 t4
    constructor
    · rcases s4 with s4 | s4
      · omega
      · have : (placeM m p wh - 1) * wh < placeM (m + 1) p wh * wh := by omega
        have := lt_of_mul h1 this
        omega
    · rcases t4 with t4 | t4
      · omega
      · have e2 : (placeM m p wh + 1) * wh = placeM m p wh * wh + wh := by rw [Int.add_mul, Int.one_mul]
        have : (placeM (m + 1) p wh - 1) * wh < (placeM m p wh + 1) * wh := by omega
        have := lt_of_mul h1 this
        omega
end Mp

/-! Rules of our own over the hand layer. -/
namespace Mp
open PySem PySem.Spec PyProof.Rows L2

/-- a def that is called with all its arguments, in places -/
structure Fn (P : Program) (w : World) (K : PySem.W.Frag) (mg : Str → Option Value) (base : Heap) (k : Nat) (f : Addr) (ps : List Str) (sp : Sp) : Prop where
  ex : ∃ fd, FnOk P w K mg base (L2.CX P w) k f fd ps sp ∧ Binds K fd ps []
  kp : PySem.W.keepIn K (.ref f) = true
/-- nothing is let out -/
theorem nopass {X : Cx} {σ : L2.St} : PassesAt (L2.CX X.prog X.w) X σ E0 := fun _ H s e s' I c => (passL (X := X) (pins := []) (σ := σ) (H := H) (s := s)) |> fun _ => by
  obtain ⟨_, _, _, _, _, _, _, _, _, _, _, _, z⟩ := c
  exact z.elim
section
variable {X : Cx} {k j : Nat} {f C : Addr} {ps : List Str} {sp : Sp} {E : L2.St → XK} {x m : Str} {p pos apos : Pos} {e o : Expr} {es : List Expr} {ta : TE} {t : TA}
theorem pe_callF (F : Fn X.prog X.w X.K X.mg X.base k f ps sp) (hr : Room j X.A) (hm : X.mg x = some (.ref f)) (hx : ∀ σ, PassesAt (L2.CX X.prog X.w) X σ (E σ)) (ha : PA X (e :: es) t) (hk : k ≤ j := by decide) (hg : Gl X x := by rfl)
    (hdb : (x == ("__debug__" : Str)) = false := by decide) (he : starEach (e :: es) X.env = (false, eval e X.env) :: starEach es X.env := by rfl) (hpl : (backTo pos (starEach es X.env)).any (·.1) = false := by rfl) :
    PE X (.Call (.Name x p) (e :: es) [] pos) (tCallS sp E t) := by
  obtain ⟨fd, F1, hb⟩ := F.ex
  exact pe_callS F1 (hr.mono hk) hg hm F.kp hb hx ha hdb he hpl
/-- o.m(e, ..) whose exceptions are wished for at the slots -/
def tMethF (C : Addr) (m : Str) (sp : Sp) (E : L2.St → XK) (ta : TE) (t : TA) : TE := fun σ H Q => ta σ H fun x H1 => ∃ a dx fs, x = .ref a ∧ H1 a = some (.ins C dx fs) ∧ fs.lookup m = none ∧ t σ H1 fun vs H2 => sp (x :: vs) H2 Q (E σ)
theorem pe_methF {pl : Sem Bool} (he : PE X o ta) (c : Cls X.K C) (hm : Meth X.K C m f) (F : Fn X.prog X.w X.K X.mg X.base k f ps sp) (hr : Room j X.A) (hx : ∀ σ, PassesAt (L2.CX X.prog X.w) X σ (E σ)) (ha : PA X (e :: es) t) (hk : k ≤ j := by decide)
    (hst : starEach (e :: es) X.env = (false, eval e X.env) :: starEach es X.env := by rfl) (hpl : (backTo pos (starEach es X.env)).any (·.1) = false := by rfl)
    (ht : eval (.Call (.Attribute o m apos) (e :: es) [] pos) X.env = (do
      let ov ← eval o X.env
      standAt apos.atName
      let (f, first) ← holding [ov] (getMethod ov m pl)
      callWith pos f first (backTo pos (starEach (e :: es) X.env)) (backToKw pos (keywordEach [] X.env))) := by rfl) :
    PE X (.Call (.Attribute o m apos) (e :: es) [] pos) (tMethF C m sp E ta t) := by
  obtain ⟨fd, F1, hb⟩ := F.ex
  refine ⟨fun pins s σ H Q I h => ?_⟩
  refine PySem.W.methodCall_KW (pl := pl) (thn (he.run pins s σ H _ I h) fun u s1 ⟨x, H1, I1, rx, a, dx, fs, ex, ea, l, q⟩ => ?_) ht
  subst ex
  obtain rfl : u = Value.ref a := rx
  refine getmeth_ok I1 ea c hm l ?_
  refine PySem.W.callWith_K (first := [.ref a]) (h₀ := X.base) I.ok.mod.kin hm.kp (thn (ha.run pos pins s1 σ H1 _ I1 q) fun us s2 ⟨vs, H2, I2, r, q2⟩ => ⟨I2.kIn, ?_⟩) hst hpl
  exact run_fnS (us := .ref a :: us) (vs := .ref a :: vs) F1 (hr.mono hk) hb (hx σ) I2 (.cons rfl r) q2
theorem pe_methF0 {pl : Sem Bool} (he : PE X o ta) (c : Cls X.K C) (hm : Meth X.K C m f) (F : Fn X.prog X.w X.K X.mg X.base k f ps sp) (hr : Room j X.A) (hx : ∀ σ, PassesAt (L2.CX X.prog X.w) X σ (E σ)) (hk : k ≤ j := by decide)
    (ht : eval (.Call (.Attribute o m apos) [] [] pos) X.env = (do
      let ov ← eval o X.env
      standAt apos.atName
      let (f, first) ← holding [ov] (getMethod ov m pl)
      callWith pos f first (backTo pos (starEach [] X.env)) (backToKw pos (keywordEach [] X.env))) := by rfl) :
    PE X (.Call (.Attribute o m apos) [] [] pos) (tMethF C m sp E ta tNil) := by
  obtain ⟨fd, F1, hb⟩ := F.ex
  refine ⟨fun pins s σ H Q I h => ?_⟩
  refine PySem.W.methodCall_KW (pl := pl) (thn (he.run pins s σ H _ I h) fun u s1 ⟨x, H1, I1, rx, a, dx, fs, ex, ea, l, q⟩ => ?_) ht
  subst ex
  obtain rfl : u = Value.ref a := rx
  refine getmeth_ok I1 ea c hm l ?_
  exact PySem.W.callWith_K0 (first := [.ref a]) I1.kIn hm.kp (run_fnS (us := [.ref a]) (vs := [.ref a]) F1 (hr.mono hk) hb (hx σ) I1 (.cons rfl .nil) q)
end

/-! ### C(e, ..) -/
/-- a new object of the class C, made by its __init__ -/
def tMakeF (C : Addr) (sp : Sp) (E : XK) (t : TA) : TE := fun σ H Q => t σ H fun vs H1 => ∀ x dx, H1 x = none → H1 dx = none → dx ≠ x → sp (.ref x :: vs) (upd (upd H1 dx (.own x)) x (.ins C dx [])) (fun v H2 => v = .non ∧ Q (.ref x) H2) E
theorem nopass0 {X : Cx} : Passes (L2.CX X.prog X.w) X E0 := fun _ _ H s e s' I c => nopass (X := X) (σ := []) [] H s e s' (by exact absurd c (fun ⟨_, _, _, _, _, _, _, _, _, _, _, _, z⟩ => z.elim)) c
section
variable {X : Cx} {k j : Nat} {f C : Addr} {ps : List Str} {sp : Sp} {E : XK} {x : Str} {p pos : Pos} {e : Expr} {es : List Expr} {t : TA}
theorem pe_makeF0 (M : Mk X.K C f) (F : Fn X.prog X.w X.K X.mg X.base k f ps sp) (hr : Room j X.A) (hm : X.mg x = some (.ref C)) (hx : Passes (L2.CX X.prog X.w) X E) (hk : k + 1 ≤ j := by decide) (hg : Gl X x := by rfl) (hdb : (x == ("__debug__" : Str)) = false := by decide) :
    PE X (.Call (.Name x p) [] [] pos) (tMakeF C sp E tNil) := by
  obtain ⟨fd, F1, hb⟩ := F.ex
  exact pe_make0 M F1 (hr.mono hk) hg hm hb .nil hx hdb
theorem pe_makeF (M : Mk X.K C f) (F : Fn X.prog X.w X.K X.mg X.base k f ps sp) (hr : Room j X.A) (hm : X.mg x = some (.ref C)) (hx : Passes (L2.CX X.prog X.w) X E) (ha : PA X (e :: es) t) (hk : k + 1 ≤ j := by decide) (hg : Gl X x := by rfl) (hdb : (x == ("__debug__" : Str)) = false := by decide)
    (he : starEach (e :: es) X.env = (false, eval e X.env) :: starEach es X.env := by rfl) (hpl : (backTo pos (starEach es X.env)).any (·.1) = false := by rfl) :
    PE X (.Call (.Name x p) (e :: es) [] pos) (tMakeF C sp E t) := by
  obtain ⟨fd, F1, hb⟩ := F.ex
  have r := pe_make (p := p) (pos := pos) (E := E) M F1 (hr.mono hk) hg hm hb .nil hx ha hdb he hpl
  have et : tMake C sp [] E t = tMakeF C sp E t := by
    unfold tMake tMakeF
    simp only [List.append_nil]
  rw [et] at r
  exact r
end
theorem _root_.L2.Room.units65 {k : Nat} {A : Around} (r : Room k A) : A.units + 65 < cLine := by have := r.un; omega
/-! ### isinstance(e, (A, B, ..)) of the exception that a suite holds -/
def rIsET (K : PySem.W.Frag) (D a : Addr) : List V → Hp → VK → Prop := fun xs H Q => ∃ (tp : Addr) (cs : List V) (us : List Value) (b : Bool), xs = [.ref a, .ref tp] ∧ H tp = some (.tup cs) ∧ Paired ClsV cs us ∧ PySem.W.kitAny K (.ref D) us = some b ∧ Q (.bl b) H
theorem call_isET {X : Cx} {a D : Addr} {oe : Obj} {pn : List (Addr × Obj)} (C : ExcC X.K D) (hz : Zc (.ref D) none oe) (hf : ∃ vs, oe.data = .fields vs) : CallR (X.suite a ((a, oe) :: pn)) (.builtin "isinstance") (rIsET X.K D a) := by
  intro pins s σ H xs us Q I r h
  obtain ⟨tp, cs, ws, b, rfl, hT, k, e, q⟩ := h
  obtain ⟨u1, u2, rfl, r1, r2⟩ := vals2 r
  cases (show u1 = Value.ref a from r1)
  cases (show u2 = Value.ref tp from r2)
  obtain ⟨hget, _⟩ := I.pin (a, oe) (List.mem_append.mpr (.inl List.mem_cons_self))
  obtain ⟨vs, hv⟩ := hf
  have J : PySem.W.InstAt s.heap a oe D none := by
    obtain ⟨oc, od, oda, osl⟩ := oe
    obtain ⟨h1, h2⟩ := hz
    dsimp only at h1 h2 hv
    subst h1 h2 hv
    exact ⟨hget, rfl, rfl, trivial⟩
  obtain ⟨_, its, rv, o, h1, h2, n, h3⟩ := (show ObjOk X.prog X.w H s.heap tp (.tup cs) from I.hok tp _ hT)
  have e3 := ClsV.all k rv
  subst e3
  obtain ⟨oc, od, dt, sl⟩ := o
  simp only at h2 h3
  subst h2 h3
  exact PySem.W.kia_tup (PySem.W.handS_kitx_exc C.hg C.hk C.hs C.hd C.ha C.hn C.ht C.hm) I.kIn J h1 e (fun z => nomatch z) fun tk => ⟨.bl b, H, I.kept (t' := tk) fun _ _ z => z, rfl, q⟩

/-! .. whatever the class of the exception is: the reading says it -/
def rIsE2 (K : PySem.W.Frag) (a : Addr) (cls : Value) (d : Option Addr) : List V → Hp → VK → Prop := fun xs H Q => ∃ D, cls = .ref D ∧ d = none ∧ ExcC K D ∧ rIsE K D a xs H Q
def rIsET2 (K : PySem.W.Frag) (a : Addr) (cls : Value) (d : Option Addr) : List V → Hp → VK → Prop := fun xs H Q => ∃ D, cls = .ref D ∧ d = none ∧ ExcC K D ∧ rIsET K D a xs H Q
section
variable {X : Cx} {a : Addr} {cls : Value} {d : Option Addr} {oe : Obj} {pn : List (Addr × Obj)}
theorem call_isE2 (hz : Zc cls d oe) (hf : ∃ vs, oe.data = .fields vs) : CallR (X.suite a ((a, oe) :: pn)) (.builtin "isinstance") (rIsE2 X.K a cls d) := by
  intro pins s σ H xs us Q I r h
  obtain ⟨D, rfl, rfl, C, h⟩ := h
  exact call_isE C hz hf pins s σ H xs us Q I r h
theorem call_isET2 (hz : Zc cls d oe) (hf : ∃ vs, oe.data = .fields vs) : CallR (X.suite a ((a, oe) :: pn)) (.builtin "isinstance") (rIsET2 X.K a cls d) := by
  intro pins s σ H xs us Q I r h
  obtain ⟨D, rfl, rfl, C, h⟩ := h
  exact call_isET C hz hf pins s σ H xs us Q I r h
end

/-! ### classes as values -/
theorem pe_clsv {X : Cx} {x : Str} {C : Addr} {pos : Pos} (hm : X.mg x = some (.ref C)) (hg : Gl X x := by rfl) (hd : (x == ("__debug__" : Str)) = false := by decide) : PE X (.Name x pos) (tC (.ref C)) := pe_glob hg hm rfl hd
theorem pe_tyv {X : Cx} {x : Str} (n : String) {pos : Pos} (hm : X.mg x = none) (hv : bootBuiltins x = some (.type n) := by decide +kernel) (hg : Gl X x := by rfl) (hn : x ≠ "__name__" := by decide) (hd : (x == ("__debug__" : Str)) = false := by decide) : PE X (.Name x pos) (tC (.ty n)) := pe_bltn hg hm hv rfl hn hd

/-! ### readings -/
theorem cpow10 {j : Int} : CPow 10 j ↔ 0 ≤ j ∧ j ≤ 1000000 := by
  unfold CPow
  constructor
  · rintro ⟨h1, h2, _⟩; exact ⟨h1, h2⟩
  · rintro ⟨h1, h2⟩; exact ⟨h1, h2, by decide⟩
theorem rEq_int {i j : Int} {H : Hp} {Q : VK} : rEq (.int i) (.int j) H Q = Q (.bl (decide (i = j))) H := by
  unfold rEq
  rw [show decide (V.int i = V.int j) = decide (i = j) from by simp]
  simp [scal]
theorem rNe_int {i j : Int} {H : Hp} {Q : VK} : rNe (.int i) (.int j) H Q = Q (.bl (!decide (i = j))) H := by
  unfold rNe
  rw [show decide (V.int i = V.int j) = decide (i = j) from by simp]
  simp [scal]
theorem cdiv_iff {i j : Int} : CDiv i j ↔ 0 < j ∧ j < 1073741824 := Iff.rfl
theorem cpow_iff {i j : Int} : CPow i j ↔ 0 ≤ j ∧ j ≤ 1000000 ∧ i.natAbs < 18446744073709551616 := Iff.rfl
theorem get_lt {ns : List Int} {k : Int} (h0 : 0 ≤ k) (h : k < (ns.map V.int).length) : atI (ns.map V.int) k = some (V.int (ns.getD k.toNat 0)) := by
  rw [List.length_map] at h
  obtain ⟨n, rfl⟩ := Int.eq_ofNat_of_zero_le h0
  refine atI_nat ?_
  have hn : n < ns.length := by omega
  rw [List.getElem?_map, List.getElem?_eq_getElem hn]
  simp [List.getD_eq_getElem?_getD, List.getElem?_eq_getElem hn]
theorem bits_le {i : Int} {n : Nat} (h : i.natAbs < 2 ^ n) : Builtin.Int.intBits i ≤ n := PyProof.Rows.intBits_le h
theorem divp_small {i j : Int} {n : Nat} (hj : 0 < j) (h : i.natAbs < 2 ^ n) (hn : n ≤ 4000) : CDivP i j := divp_ok hj (Nat.le_trans (bits_le h) (by omega))
theorem mul_small {i j : Int} {n m : Nat} (h : i.natAbs < 2 ^ n) (g : j.natAbs < 2 ^ m) : (i * j).natAbs < 2 ^ (n + m) := by
  rw [Int.natAbs_mul, Nat.pow_add]
  exact Nat.mul_lt_mul'' h g

theorem abs250 {x : Int} (h0 : -10 ^ 70 ≤ x) (h1 : x ≤ 10 ^ 70) : x.natAbs < 2 ^ 250 := by omega
theorem same_new {H : Hp} {p : Addr} {o : HO} (h : H p = none) : Same H (upd H p o) := fun b u e => by rw [upd_ne (ne_of_none e h)]; exact e
theorem same_t {K : PySem.W.Frag} {H H' : Hp} {a : Addr} {xs : List V} (e : Same H H') (h : SqT K H a xs) : SqT K H' a xs := by
  rcases h with (h | ⟨o, h⟩) | h
  · exact .inl (.inl (e _ _ h))
  · exact .inl (.inr ⟨o, e _ _ h⟩)
  · exact .inr h

/-! ### isinstance of ints -/
theorem isi_of {K : PySem.W.Frag} {x : V} {n t : String} {r : Bool} {H : Hp} {Q : VK} (ht : ∀ u, TyX K H x u → u = .type t) (hx : TyX K H x (.type t)) (hk : kitB t n = some r) : rIsi K [x, .ty n] H Q ↔ Q (.bl r) H := by
  constructor
  · rintro ⟨x', c, t', u, b, e, k, ty, hb, q⟩
    simp only [List.cons.injEq, and_true] at e
    obtain ⟨rfl, rfl⟩ := e
    cases k
    have e2 := ht _ ty
    subst e2
    have := (kit_ty (K := K) hk).symm.trans hb
    rw [Option.some.inj this]
    exact q
  · intro q
    exact ⟨_, _, _, _, _, rfl, .ty _, hx, kit_ty hk, q⟩
theorem ty_int {K : PySem.W.Frag} {H : Hp} {i : Int} : ∀ u, TyX K H (.int i) u → u = .type "int" := fun u h => by
  cases h with
  | base h => cases h; rfl
theorem isi_int_int {K : PySem.W.Frag} {i : Int} {H : Hp} {Q : VK} : rIsi K [.int i, .ty "int"] H Q ↔ Q (.bl true) H := isi_of ty_int (.base (.int i)) (by decide +kernel)
theorem isi_int_bool {K : PySem.W.Frag} {i : Int} {H : Hp} {Q : VK} : rIsi K [.int i, .ty "bool"] H Q ↔ Q (.bl false) H := isi_of ty_int (.base (.int i)) (by decide +kernel)
theorem ty_bool {K : PySem.W.Frag} {H : Hp} {i : Bool} : ∀ u, TyX K H (.bl i) u → u = .type "bool" := fun u h => by
  cases h with
  | base h => cases h; rfl
theorem isi_bool_bool {K : PySem.W.Frag} {i : Bool} {H : Hp} {Q : VK} : rIsi K [.bl i, .ty "bool"] H Q ↔ Q (.bl true) H := isi_of ty_bool (.base (.bl i)) (by decide +kernel)

/-! ### the suite of a refusal: others = isinstance(e, (A, B, C, D)); return isinstance(e, X) and isinstance(e, ValueError) and not others -/
def tSuite4 (K : PySem.W.Frag) (i j : Nat) (y1 y2 y3 y4 D : Addr) : Addr → Value → Option Addr → TS := fun a cls d =>
  tSeq (tAsg (tCB (rIsET2 K a cls d) (tCons (tVar i) (tCons (tTup (tCons (tC (V.ref y1)) (tCons (tC (V.ref y2)) (tCons (tC (V.ref y3)) (tCons (tC (V.ref y4)) tNil))))) tNil))) (gName j))
    (tRet (tAndV (tCB (rIsE2 K a cls d) (tCons (tVar i) (tCons (tC (V.ref D)) tNil))) (tAndV (tCB (rIsE2 K a cls d) (tCons (tVar i) (tCons (tC (V.ty "ValueError")) tNil))) (tNotV (tVar j)))))
theorem suite_ok {K : PySem.W.Frag} {mid D y1 y2 y3 y4 : Addr} {i j : Nat} {σ : L2.St} {H : Hp} {Dd : Ends} (hm : PySem.W.exmOne K (.ref D) (.ref mid) = some true) (xe : ExcC K D) (kn : PySem.W.kitAny K (.ref D) [.ref y1, .ref y2, .ref y3, .ref y4] = some false)
    (ki : PySem.W.kitOne K (.ref D) (.ref D) = some true) (kv : PySem.W.kitOne K (.ref D) (.type "ValueError") = some true) (hi : i < σ.length) (hj : j < σ.length) (ne : i ≠ j) (q : ∀ H', Same H H' → Dd.rt (.bl true) H') :
    WE (wAs K (.ref mid) i (tSuite4 K i j y1 y2 y3 y4 D) (fun _ _ _ _ => False) Dd) σ (.ref D) none H := by
  refine ⟨true, hm, fun _ a na => ?_, fun z => nomatch z⟩
  have e1 : (σ.set i (some (V.ref a)))[i]? = some (some (V.ref a)) := by rw [List.getElem?_set_self hi]
  refine ⟨_, e1, by show 4 ≤ sizeLine; decide, fun p hp => ?_⟩
  have s1 : Same H (upd H p (.tup [V.ref y1, V.ref y2, V.ref y3, V.ref y4])) := fun b o e => by rw [upd_ne (ne_of_none e hp)]; exact e
  refine ⟨D, rfl, rfl, xe, p, _, _, false, rfl, upd_same, .cons (.own _) (.cons (.own _) (.cons (.own _) (.cons (.own _) .nil))), kn, ?_⟩
  have e2 : ((σ.set i (some (V.ref a))).set j (some (V.bl false)))[i]? = some (some (V.ref a)) := by rw [List.getElem?_set_ne (Ne.symm ne)]; exact e1
  have e3 : ((σ.set i (some (V.ref a))).set j (some (V.bl false)))[j]? = some (some (V.bl false)) := by rw [List.getElem?_set_self (by rw [List.length_set]; exact hj)]
  refine ⟨_, e2, D, rfl, rfl, xe, _, _, true, rfl, fun u r => r, ki, true, rfl, iteT ?_⟩
  refine ⟨_, e2, D, rfl, rfl, xe, _, _, true, rfl, fun u r => r, kv, true, rfl, iteT ?_⟩
  exact ⟨_, e3, false, rfl, q _ s1⟩

/-! ### what is left of a reading at a field, a dict, a method -/
def fldR (K : PySem.W.Frag) (f : Str) (x : V) (H : Hp) (Q : VK) : Prop := ∃ a C dx fs v, x = .ref a ∧ H a = some (.ins C dx fs) ∧ Cls K C ∧ NoAttr K C f ∧ fs.lookup f = some v ∧ Q v H
theorem fldR.mk {K : PySem.W.Frag} {f : Str} {a C dx : Addr} {fs : List (Str × V)} {v : V} {H : Hp} {Q : VK} (h : H a = some (.ins C dx fs)) (c : Cls K C) (n : NoAttr K C f) (l : fs.lookup f = some v) (q : Q v H) : fldR K f (.ref a) H Q := ⟨a, C, dx, fs, v, rfl, h, c, n, l, q⟩
theorem tFld_r {K : PySem.W.Frag} {ta : TE} {f : Str} {σ : L2.St} {H : Hp} {Q : VK} : tFld K ta f σ H Q = ta σ H fun x H1 => fldR K f x H1 Q := rfl
def setR (K : PySem.W.Frag) (f : Str) (x y : V) (H : Hp) (q : Hp → Prop) : Prop := ∃ a C dx fs, x = .ref a ∧ H a = some (.ins C dx fs) ∧ Cls K C ∧ NoAttr K C f ∧ fs.length < 1000 ∧ q (upd H a (.ins C dx (putF f y fs)))
theorem setR.mk {K : PySem.W.Frag} {f : Str} {a C dx : Addr} {fs : List (Str × V)} {y : V} {H : Hp} {q : Hp → Prop} (h : H a = some (.ins C dx fs)) (c : Cls K C) (n : NoAttr K C f) (l : fs.length < 1000) (k : q (upd H a (.ins C dx (putF f y fs)))) : setR K f (.ref a) y H q := ⟨a, C, dx, fs, rfl, h, c, n, l, k⟩
theorem sFld_r {K : PySem.W.Frag} {ta tv : TE} {f : Str} {D : Ends} {σ : L2.St} {H : Hp} : sFld K ta tv f D σ H = tv σ H fun y H1 => ta σ H1 fun x H2 => setR K f x y H2 (D.nx σ) := rfl
def augR (K : PySem.W.Frag) (f : Str) (x : V) (H : Hp) (tv : V → Hp → (V → Hp → Prop) → Prop) (q : Hp → Prop) : Prop := ∃ a C dx fs v, x = .ref a ∧ H a = some (.ins C dx fs) ∧ Cls K C ∧ NoAttr K C f ∧ fs.lookup f = some v ∧ tv v H fun z H3 => ∃ dx' fs', H3 a = some (.ins C dx' fs') ∧ fs'.length < 1000 ∧ q (upd H3 a (.ins C dx' (putF f z fs')))
theorem augR.mk {K : PySem.W.Frag} {f : Str} {a C dx : Addr} {fs : List (Str × V)} {v : V} {H : Hp} {tv : V → Hp → (V → Hp → Prop) → Prop} {q : Hp → Prop} (h : H a = some (.ins C dx fs)) (c : Cls K C) (n : NoAttr K C f) (l : fs.lookup f = some v) (k : tv v H fun z H3 => ∃ dx' fs', H3 a = some (.ins C dx' fs') ∧ fs'.length < 1000 ∧ q (upd H3 a (.ins C dx' (putF f z fs')))) : augR K f (.ref a) H tv q := ⟨a, C, dx, fs, v, rfl, h, c, n, l, k⟩
theorem sFldAug_r {K : PySem.W.Frag} {ta tv : TE} {rd : V → V → Hp → VK → Prop} {f : Str} {D : Ends} {σ : L2.St} {H : Hp} : sFldAug K ta tv rd f D σ H = ta σ H fun x H1 => augR K f x H1 (fun v H1 R => tv σ H1 fun y H2 => rd v y H2 R) (D.nx σ) := rfl
def dgR (x y : V) (H : Hp) (Q : VK) : Prop := ∃ a v, x = .ref a ∧ DGet H a y (some v) ∧ Q v H
theorem dgR.mk {a : Addr} {kvs : Kvs} {k : Int} {v : V} {H : Hp} {Q : VK} (h : H a = some (.dK kvs)) (e : valV kvs (Sum.inl k) = some v) (q : Q v H) : dgR (.ref a) (.int k) H Q := ⟨a, v, rfl, e ▸ DGet.k (k := Sum.inl k) h, q⟩
theorem tDGet_r {td ty : TE} {σ : L2.St} {H : Hp} {Q : VK} : tDGet td ty σ H Q = td σ H fun x H1 => ty σ H1 fun y H2 => dgR x y H2 Q := rfl
def diR (x y : V) (H : Hp) (q : Bool → Prop) : Prop := ∃ a o, x = .ref a ∧ DGet H a y o ∧ q o.isSome
theorem diR.mk {a : Addr} {kvs : Kvs} {k : Int} {H : Hp} {q : Bool → Prop} (h : H a = some (.dK kvs)) (k2 : q (valV kvs (Sum.inl k)).isSome) : diR (.ref a) (.int k) H q := ⟨a, _, rfl, DGet.k (k := Sum.inl k) h, k2⟩
theorem tDIn_r {td ty : TE} {σ : L2.St} {H : Hp} {Q : VK} : tDIn ty td σ H Q = ty σ H fun y H1 => td σ H1 fun x H2 => diR x y H2 fun b => Q (.bl b) H2 := rfl
theorem tDNotIn_r {td ty : TE} {σ : L2.St} {H : Hp} {Q : VK} : tDNotIn ty td σ H Q = ty σ H fun y H1 => td σ H1 fun x H2 => diR x y H2 fun b => Q (.bl (!b)) H2 := rfl
def dpR (x y v : V) (H : Hp) (q : Hp → Prop) : Prop := ∃ a H4, x = .ref a ∧ DPut H a y v H4 ∧ q H4
theorem dpR.mk {a : Addr} {kvs : Kvs} {k : Int} {v : V} {H : Hp} {q : Hp → Prop} (h : H a = some (.dK kvs)) (l : kvs.length < 16777216) (k2 : q (upd H a (.dK (putK kvs (Sum.inl k) v)))) : dpR (.ref a) (.int k) v H q := ⟨a, _, rfl, DPut.k (k := Sum.inl k) h (by rw [PySem.sizeLine_eq]; exact l), k2⟩
theorem sDPut_r {td ty tv : TE} {D : Ends} {σ : L2.St} {H : Hp} : sDPut td ty tv D σ H = tv σ H fun v H1 => td σ H1 fun x H2 => ty σ H2 fun y H3 => dpR x y v H3 (D.nx σ) := rfl
def popR (x : V) (H : Hp) (ty : Hp → (V → Hp → Prop) → Prop) (Q : VK) : Prop := ∃ a, x = .ref a ∧ IsD H a ∧ ty H fun y H2 => ∃ kvs k v, H2 a = some (.dK kvs) ∧ y = kV k ∧ valV kvs k = some v ∧ Q v (upd H2 a (.dK (dropK kvs k)))
theorem tDPop1_r {td ty : TE} {σ : L2.St} {H : Hp} {Q : VK} : tDPop1 td ty σ H Q = td σ H fun x H1 => popR x H1 (fun H R => ty σ H R) Q := rfl
def metR (C : Addr) (m : Str) (x : V) (H : Hp) (R : Prop) : Prop := ∃ a dx fs, x = .ref a ∧ H a = some (.ins C dx fs) ∧ fs.lookup m = none ∧ R
theorem metR.mk {C a dx : Addr} {fs : List (Str × V)} {m : Str} {H : Hp} {R : Prop} (h : H a = some (.ins C dx fs)) (l : fs.lookup m = none) (k : R) : metR C m (.ref a) H R := ⟨a, dx, fs, rfl, h, l, k⟩
theorem tMethF_r {C : Addr} {m : Str} {sp : Sp} {E : L2.St → XK} {ta : TE} {t : TA} {σ : L2.St} {H : Hp} {Q : VK} : tMethF C m sp E ta t σ H Q = ta σ H fun x H1 => metR C m x H1 (t σ H1 fun vs H2 => sp (x :: vs) H2 Q (E σ)) := rfl
theorem cxOf_K {CX : CXT} {P : Program} {w : World} {K : PySem.W.Frag} {mg : Str → Option Value} {base : Heap} {N : List Str} {q : Str} {sc : Scope} {f : Addr} {cd : Value} {A : Around} {o : List Env} {s : Shared} {H : Hp} {E : XK} : (cxOf CX P w K mg base N q sc f cd A o s H E).K = K := rfl
theorem ixL_mk {K : PySem.W.Frag} {p : Addr} {xs : List V} {i : Int} {v : V} {H : Hp} {Q : VK} (h : SqL K H p xs) (e : atI xs i = some v) (q : Q v H) : rIxL K (.ref p) (.int i) H Q := ⟨p, xs, i, v, rfl, rfl, h, e, q⟩
theorem ixT_mk {K : PySem.W.Frag} {p : Addr} {xs : List V} {i : Int} {v : V} {H : Hp} {Q : VK} (h : SqT K H p xs) (e : atI xs i = some v) (q : Q v H) : rIxT K (.ref p) (.int i) H Q := ⟨p, xs, i, v, rfl, rfl, h, e, q⟩
/-- the number, the coming of a thing -/
theorem ixT0 {K : PySem.W.Frag} {p : Addr} {n c : Int} {H : Hp} {Q : VK} (h : H p = some (.tup [.int n, .int c])) (q : Q (.int n) H) : rIxT K (.ref p) (.int 0) H Q := ixT_mk (SqT.of h) rfl q
theorem ixT1 {K : PySem.W.Frag} {p : Addr} {n c : Int} {H : Hp} {Q : VK} (h : H p = some (.tup [.int n, .int c])) (q : Q (.int c) H) : rIxT K (.ref p) (.int 1) H Q := ixT_mk (SqT.of h) rfl q

theorem ixN_of {n j : Nat} (hj : j < n) : ixN n (j : Int) = some j := by
  unfold ixN
  rw [if_pos (by omega), if_pos (by omega)]
  simp
theorem half_up {k : Nat} (h : 0 < k) : ((k : Int) - 1) / 2 = (((k - 1) / 2 : Nat) : Int) := by omega
/-- a while by its word and a number that falls, in steps -/
theorem while_mk {c : TT} {tb : TS} {D : Ends} {σ : L2.St} {H : Hp} (W : Nat → L2.St → Hp → Prop) (m : Nat) (h0 : W m σ H)
    (hs : ∀ m σ H, W m σ H → c σ H fun b H1 => if b = true then tb { D with nx := fun σ' H' => ∃ m', m' < m ∧ W m' σ' H', ct := fun σ' H' => ∃ m', m' < m ∧ W m' σ' H', bk := D.nx } σ H1 else D.nx σ H1)
    (mono : ∀ σ H Q Q', (∀ b H1, Q b H1 → Q' b H1) → c σ H Q → c σ H Q') : tWhile c tb D σ H := by
  refine ⟨W, ⟨m, h0⟩, fun m σ H w => ?_⟩
  refine mono σ H _ _ (fun b H1 q => ?_) (hs m σ H w)
  cases b with
  | true => exact ⟨_, fun σ' H' h => h, q⟩
  | false => exact q

/-! ### things as data: == of tuples of two ints, of lists of them -/
def tV (t : T) : HO := .tup [.int t.1, .int t.2]
def tD (t : T) : PyData := .tuple [.int t.1, .int t.2]
def lD (l : List T) : PyData := .list (l.map tD)
theorem eqv_tD (a b : T) : PyData.eqv (tD a) (tD b) = decide (a = b) := by
  show PyData.eqv (.tuple [.int a.1, .int a.2]) (.tuple [.int b.1, .int b.2]) = _
  simp only [PyData.eqv, PyData.eqvAll, Bool.and_true]
  by_cases e : a = b
  · subst e; simp
  · rw [decide_eq_false e]
    cases h : (a.1 == b.1 && a.2 == b.2) with
    | false => rfl
    | true =>
      rw [Bool.and_eq_true, beq_iff_eq, beq_iff_eq] at h
      exact absurd (Prod.ext h.1 h.2) e
theorem eqvAll_tD : ∀ a b : List T, PyData.eqvAll (a.map tD) (b.map tD) = decide (a = b)
  | [], [] => by simp [PyData.eqvAll]
  | [], _ :: _ => by simp [PyData.eqvAll]
  | _ :: _, [] => by simp [PyData.eqvAll]
  | x :: a, y :: b => by
    rw [List.map_cons, List.map_cons]
    simp only [PyData.eqvAll]
    rw [eqv_tD, eqvAll_tD a b]
    by_cases e : x = y
    · by_cases e2 : a = b <;> simp [e, e2]
    · simp [e]
theorem eqv_lD (a b : List T) : PyData.eqv (lD a) (lD b) = decide (a = b) := by
  unfold lD
  simp only [PyData.eqv]
  exact eqvAll_tD a b
theorem lay_tD (a : T) : PyData.canLay0 (tD a) = true := by
  show PyData.canLay0 (.tuple [.int a.1, .int a.2]) = true
  simp [PyData.canLay0, PyData.canLayAll0]
theorem depth_tD (a : T) : PyData.depth (tD a) ≤ 3 := by
  show PyData.depth (.tuple [.int a.1, .int a.2]) ≤ 3
  simp [PyData.depth, PyData.depthAll]
theorem shaped_tD (a : T) : SeqAt.shaped (tD a) = true := by
  unfold SeqAt.shaped
  rw [lay_tD, Bool.true_and, decide_eq_true_iff]
  have := depth_tD a
  omega
theorem lay_lD : ∀ l : List T, PyData.canLayAll0 (l.map tD) = true
  | [] => by simp [PyData.canLayAll0]
  | x :: l => by
    rw [List.map_cons]
    simp only [PyData.canLayAll0]
    rw [lay_tD, lay_lD l]
    rfl
theorem depthAll_lD : ∀ l : List T, PyData.depthAll (l.map tD) ≤ 3
  | [] => by simp [PyData.depthAll]
  | x :: l => by
    rw [List.map_cons]
    have h1 := depth_tD x
    have h2 := depthAll_lD l
    simp only [PyData.depthAll]
    omega
theorem shaped_lD (l : List T) : SeqAt.shaped (lD l) = true := by
  unfold SeqAt.shaped lD
  have h1 : PyData.canLay0 (.list (l.map tD)) = true := by
    simp only [PyData.canLay0]
    exact lay_lD l
  have h2 : PyData.depth (.list (l.map tD)) ≤ 64 := by
    have := depthAll_lD l
    simp only [PyData.depth]
    omega
  rw [h1, Bool.true_and, decide_eq_true_iff]
  exact h2
theorem dp_t {K : PySem.W.Frag} {H : Hp} {p : Addr} {t : T} (h : H p = some (tV t)) : Dp K H (.ref p) (tD t) := .tup (SqT.of h) (.cons (.int _) (.cons (.int _) .nil))
theorem dpAll_l {K : PySem.W.Frag} {H : Hp} : ∀ {es : List En}, (∀ e ∈ es, H e.1 = some (tV e.2)) → DpAll K H (es.map fun e => V.ref e.1) ((es.map (·.2)).map tD)
  | [], _ => .nil
  | e :: es, h => .cons (dp_t (h e List.mem_cons_self)) (dpAll_l fun x hx => h x (List.mem_cons_of_mem _ hx))
theorem dp_l {K : PySem.W.Frag} {H : Hp} {a : Addr} {es : List En} (h : SqL K H a (es.map fun e => V.ref e.1)) (ht : ∀ e ∈ es, H e.1 = some (tV e.2)) : Dp K H (.ref a) (lD (es.map (·.2))) := .lst h (dpAll_l ht)
theorem dp_nil {K : PySem.W.Frag} {H : Hp} {a : Addr} (h : SqL K H a []) : Dp K H (.ref a) (lD []) := .lst h .nil
theorem eqD_l {K : PySem.W.Frag} {H : Hp} {x y : V} {l1 l2 : List T} {Q : VK} (hx : Dp K H x (lD l1)) (hy : Dp K H y (lD l2)) (q : Q (.bl (decide (l1 = l2))) H) : rEqD K x y H Q := ⟨_, _, hx, hy, shaped_lD _, shaped_lD _, by rw [eqv_lD]; exact q⟩
theorem neD_l {K : PySem.W.Frag} {H : Hp} {x y : V} {l1 l2 : List T} {Q : VK} (hx : Dp K H x (lD l1)) (hy : Dp K H y (lD l2)) (q : Q (.bl (!decide (l1 = l2))) H) : rNeD K x y H Q := ⟨_, _, hx, hy, shaped_lD _, shaped_lD _, by rw [eqv_lD]; exact q⟩
theorem eqD_t {K : PySem.W.Frag} {H : Hp} {x y : V} {a b : T} {Q : VK} (hx : Dp K H x (tD a)) (hy : Dp K H y (tD b)) (q : Q (.bl (decide (a = b))) H) : rEqD K x y H Q := ⟨_, _, hx, hy, shaped_tD _, shaped_tD _, by rw [eqv_tD]; exact q⟩
theorem neD_t {K : PySem.W.Frag} {H : Hp} {x y : V} {a b : T} {Q : VK} (hx : Dp K H x (tD a)) (hy : Dp K H y (tD b)) (q : Q (.bl (!decide (a = b))) H) : rNeD K x y H Q := ⟨_, _, hx, hy, shaped_tD _, shaped_tD _, by rw [eqv_tD]; exact q⟩

/-! ### facts of the top -/
open He in
/-- more facts, by names -/
inductive Fb where
  | kit (x y : Str) (b : Bool)
  | kitT (x : Str) (n : String) (b : Bool)
  | kitL (x : Str) (ys : List Str) (b : Bool)
  | inh (x y m : Str)
  | exc (x : Str)
  | ins (x : Str)
def clsB (K : PySem.W.Frag) (D : Addr) : Bool := decide (PySem.W.findIn K (.ref D) "__class__" = some (some (.builtin "object.__class__"))) && (decide (PySem.W.specialIn K (.builtin "object.__class__") "__get__" = some (some (.builtin "getset_descriptor.__get__"))) &&
  (decide (PySem.W.takesIn K (.builtin "object.__class__") = some true) && decide (PySem.W.mroIn K D (.type "object") = some true)))
def excB (K : PySem.W.Frag) (D : Addr) : Bool := decide (PySem.W.findIn K (.ref D) "__getattribute__" = some (some (.builtin "BaseException.__getattribute__"))) && (decide (PySem.W.findIn K (.ref D) "__getattr__" = some none) &&
  (decide (PySem.W.subIn K (.ref D) (.type "BaseException") = some true) && (PySem.W.hasDictIn K D && clsB K D)))
open He in
def Fb.ok (K : PySem.W.Frag) : Fb → Bool
  | .kit x y b => decide (PySem.W.kitOne K (.ref (ga K x)) (.ref (ga K y)) = some b)
  | .kitT x n b => decide (PySem.W.kitOne K (.ref (ga K x)) (.type n) = some b)
  | .kitL x ys b => decide (PySem.W.kitAny K (.ref (ga K x)) (ys.map fun y => Value.ref (ga K y)) = some b)
  | .inh x y m => decide (ma K (ga K x) m = ma K (ga K y) m)
  | .exc x => excB K (ga K x)
  | .ins x => clsB K (ga K x)
theorem ba2 {a b : Bool} (h : (a && b) = true) : a = true ∧ b = true := Bool.and_eq_true_iff.mp h
structure InsC (K : PySem.W.Frag) (D : Addr) : Prop where
  ha : PySem.W.findIn K (.ref D) "__class__" = some (some (.builtin "object.__class__"))
  hn : PySem.W.specialIn K (.builtin "object.__class__") "__get__" = some (some (.builtin "getset_descriptor.__get__"))
  ht : PySem.W.takesIn K (.builtin "object.__class__") = some true
  hm : PySem.W.mroIn K D (.type "object") = some true
theorem clsB_ok {K : PySem.W.Frag} {D : Addr} (h : clsB K D = true) : InsC K D := by
  obtain ⟨h1, h⟩ := ba2 h
  obtain ⟨h2, h⟩ := ba2 h
  obtain ⟨h3, h4⟩ := ba2 h
  exact ⟨of_decide_eq_true h1, of_decide_eq_true h2, of_decide_eq_true h3, of_decide_eq_true h4⟩
theorem excB_ok {K : PySem.W.Frag} {D : Addr} (h : excB K D = true) : ExcC K D := by
  obtain ⟨h1, h⟩ := ba2 h
  obtain ⟨h2, h⟩ := ba2 h
  obtain ⟨h3, h⟩ := ba2 h
  obtain ⟨h4, h5⟩ := ba2 h
  have c := clsB_ok h5
  exact ⟨of_decide_eq_true h1, of_decide_eq_true h2, of_decide_eq_true h3, h4, c.ha, c.hn, c.ht, c.hm⟩
theorem TyOf.of {K : PySem.W.Frag} {H : Hp} {a C dx : Addr} {fs : List (Str × V)} (c : InsC K C) (cl : Cls K C) (e : H a = some (.ins C dx fs)) : TyOf K H (.ref a) (.ref C) := .ins e cl c.ha c.hn c.ht c.hm

open He in
abbrev AlM : Type := AlD × Bool
open He in
def obsM (fa : List Fa) (fn : List DefD) (fb : List Fb) (K : PySem.W.Frag) : AlM := (obsD fa fn K, fb.all fun f => f.ok K)
open He in
def valM (fn : List DefD) : AlM := (valD fn, true)
open He in
def SaysM (fa : List Fa) (fn : List DefD) (fb : List Fb) (K : PySem.W.Frag) : Prop := obsM fa fn fb K = valM fn
open He in
def obsMG (n : Nat) (fa : List Fa) (fn : List DefD) (fb : List Fb) (g : Addr → Option Obj) : AlM := obsM fa fn fb (frG g (asD g n))
open He in
def hookM (n : Nat) (fa : List Fa) (fn : List DefD) (fb : List Fb) : PySem.W.Hook where
  α := AlM
  obs := fun s => obsMG n fa fn fb s.heap.get?
  val := fun _ => valM fn
  says := fun _ h => ∃ K : PySem.W.Frag, K.In h ∧ SaysM fa fn fb K
  of := fun _ _ e => ⟨_, frG_in, e⟩
  keeps := fun _ _ _ ⟨K, hK, c⟩ k => ⟨K, PySem.W.Frag.In.keeps hK k, c⟩
open He in
theorem obsMG_eq {n : Nat} {fa : List Fa} {fn : List DefD} {fb : List Fb} {g : Addr → Option Obj} {s : Shared} (h : ∀ a, g a = s.heap.get? a) : obsMG n fa fn fb g = (hookM n fa fn fb).obs s := by
  have e : g = s.heap.get? := funext h
  rw [e] <;> rfl
section
open He
variable {fa : List Fa} {fn : List DefD} {fb : List Fb} {K : PySem.W.Frag}
theorem SaysM.d (c : SaysM fa fn fb K) : SaysD fa fn K := congrArg (fun z : AlM => z.1) c
theorem SaysM.more (c : SaysM fa fn fb K) (i : Nat) {f : Fb} (h : fb[i]? = some f := by rfl) : f.ok K = true := by
  have e : (fb.all fun f => f.ok K) = true := congrArg (fun z : AlM => z.2) c
  exact List.all_eq_true.mp e f (List.mem_of_getElem? h)
/-- a class's method that another class has by inheritance -/
theorem inh_ok {x y m : Str} (c : (Fa.meth x m).ok K = true) (e : (Fb.inh x y m).ok K = true) : Meth K (ga K x) m (ma K (ga K y) m) := by
  have e2 : ma K (ga K x) m = ma K (ga K y) m := of_decide_eq_true e
  have r := meth_ok c
  rw [e2] at r
  exact r
end
/-- a def of the text by its datum -/
abbrev FnP (K : PySem.W.Frag) (x qual : Str) (st : Stmt) (f : Addr) (fd : FuncData) : Prop := FunD K x qual (defArgs st) (defBody st) (defScope st) [] [] f fd
section
variable {P : Program} {w : World} {K : PySem.W.Frag} {mg : Str → Option Value} {base : Heap}
/-- THE RULE for a def without defaults that lets nothing out of its own -/
theorem fn_ok {x qual : Str} {st : Stmt} {f : Addr} {fd : FuncData} {N ps : List Str} {k : Nat} {sp : Sp} (F : FnP K x qual st f fd) (S : FnScope N ps (defScope st)) (len : ∀ vs H Q E, sp vs H Q E → vs.length = ps.length)
    (hb : ∀ (kV doc pm : Value) (an : Option Addr) (cdv ct : Value) (us : List Value), us.length = ps.length → bindArgs (PySem.W.fnOf x qual (defArgs st) (defBody st) (defScope st) .none kV doc pm an cdv ct) ⟨us, []⟩ = pure (ps.zip us))
    (hbody : ∀ (cdv : Value) (A : Around) (outer : List Env) (s : Shared) (H : Hp) (vs : List V) (Q : VK) (E : XK), Room k (A.deeper (envOfC qual (defScope st) s.heap.objs.size f cdv)) → sp vs H Q E →
      ∃ t, PSs (cxOf (L2.CX P w) P w K mg base N qual (defScope st) f cdv A outer s H E).nox (defBody st) t ∧ t { nx := fun _ H' => Q .non H', rt := Q } (start N vs) H) : Fn P w K mg base (k + 1) f ps sp :=
  ⟨⟨fd, F.ok S len fun cdv A outer s H vs Q E hr hsp => by
    obtain ⟨t, h, q⟩ := hbody cdv A outer s H vs Q E hr hsp
    exact ⟨t, h.nox, q⟩, F.bindsN hb⟩, F.kp⟩
/-- the law's own def -/
theorem fn_ok0 {x qual : Str} {st : Stmt} {f : Addr} {fd : FuncData} {N ps : List Str} {k : Nat} {sp : Sp} (F : FnP K x qual st f fd) (S : FnScope N ps (defScope st)) (len : ∀ vs H Q E, sp vs H Q E → vs.length = ps.length)
    (hbody : ∀ (cdv : Value) (A : Around) (outer : List Env) (s : Shared) (H : Hp) (vs : List V) (Q : VK) (E : XK), Room k (A.deeper (envOfC qual (defScope st) s.heap.objs.size f cdv)) → sp vs H Q E →
      ∃ t, PSs (cxOf CX0 P w K mg base N qual (defScope st) f cdv A outer s H E).nox (defBody st) t ∧ t { nx := fun _ H' => Q .non H', rt := Q } (start N vs) H) : FnOk P w K mg base CX0 (k + 1) f fd ps sp :=
  F.ok S len fun cdv A outer s H vs Q E hr hsp => by
    obtain ⟨t, h, q⟩ := hbody cdv A outer s H vs Q E hr hsp
    exact ⟨t, h.nox, q⟩
/-- .. that may raise -/
theorem fn_okX {x qual : Str} {st : Stmt} {f : Addr} {fd : FuncData} {N ps : List Str} {k : Nat} {sp : Sp} (F : FnP K x qual st f fd) (S : FnScope N ps (defScope st)) (len : ∀ vs H Q E, sp vs H Q E → vs.length = ps.length)
    (hb : ∀ (kV doc pm : Value) (an : Option Addr) (cdv ct : Value) (us : List Value), us.length = ps.length → bindArgs (PySem.W.fnOf x qual (defArgs st) (defBody st) (defScope st) .none kV doc pm an cdv ct) ⟨us, []⟩ = pure (ps.zip us))
    (hbody : ∀ (cdv : Value) (A : Around) (outer : List Env) (s : Shared) (H : Hp) (vs : List V) (Q : VK) (E : XK), Room k (A.deeper (envOfC qual (defScope st) s.heap.objs.size f cdv)) → sp vs H Q E →
      ∃ t, PSs (cxOf (L2.CX P w) P w K mg base N qual (defScope st) f cdv A outer s H E) (defBody st) t ∧ t { nx := fun _ H' => Q .non H', rt := Q } (start N vs) H) : Fn P w K mg base (k + 1) f ps sp :=
  ⟨⟨fd, F.ok S len hbody, F.bindsN hb⟩, F.kp⟩
end
end Mp

/-! sorted of things, isinstance of things, lists of ints. -/
namespace Mp
open PySem PySem.Spec PyProof.Rows L2
abbrev rf (es : List En) : List V := es.map fun e => V.ref e.1
abbrev vl (es : List En) : List T := es.map (·.2)
def Tup (H : Hp) (es : List En) : Prop := ∀ e ∈ es, H e.1 = some (tV e.2)
def kH (H : Hp) : V → Int × Int
  | .ref a => match H a with
    | some (.tup [.int x, .int y]) => (x, y)
    | _ => (0, 0)
  | _ => (0, 0)
theorem kH_of {H : Hp} {e : En} (h : H e.1 = some (tV e.2)) : kH H (.ref e.1) = e.2 := by
  unfold kH
  simp only [h, tV]
def bk (H : Hp) : V → En
  | .ref a => (a, kH H (.ref a))
  | _ => (0, (0, 0))
theorem bk_rf {H : Hp} {es : List En} (h : Tup H es) : (rf es).map (bk H) = es := by
  rw [List.map_map]
  conv => rhs; rw [← List.map_id es]
  refine List.map_congr_left fun e he => ?_
  show (e.1, kH H (.ref e.1)) = e
  rw [kH_of (h e he)]
theorem rf_perm {H : Hp} {es : List En} {ys : List V} (h : Tup H es) (p : ys.Perm (rf es)) : ∃ zs : List En, ys = rf zs ∧ zs.Perm es ∧ Tup H zs := by
  have p2 := p.map (bk H)
  rw [bk_rf h] at p2
  refine ⟨ys.map (bk H), ?_, p2, fun e he => h e (p2.mem_iff.mp he)⟩
  show ys = (ys.map (bk H)).map fun e => V.ref e.1
  rw [List.map_map]
  conv => lhs; rw [← List.map_id ys]
  refine List.map_congr_left fun y hy => ?_
  obtain ⟨e, he, q⟩ := List.mem_map.mp (p.mem_iff.mp hy)
  subst q
  rfl
def Asc (l : List T) : Prop := l.Pairwise fun x y => lt2 y x = false
theorem sorted_mk {K : PySem.W.Frag} {H : Hp} {a : Addr} {es : List En} {Q : VK} (h : SqL K H a (rf es)) (ht : Tup H es)
    (q : ∀ (zs : List En) (p : Addr), zs.Perm es → Tup H zs → Asc (vl zs) → H p = none → Q (.ref p) (upd H p (.lst (rf zs)))) : rSortedPO K [.ref a] H Q := by
  refine ⟨a, rf es, kH H, rfl, h, fun x hx => ?_, fun ys p hs hb hp => ?_⟩
  · obtain ⟨e, he, q⟩ := List.mem_map.mp hx
    subst q
    refine ⟨e.1, rfl, ?_⟩
    rw [kH_of (ht e he)]
    exact ht e he
  · obtain ⟨zs, rfl, pz, tz⟩ := rf_perm ht hb.perm
    refine q zs p pz tz ?_ hp
    have hs : (zs.map fun e => V.ref e.1).Pairwise fun x y => SrtO.lexB (kH H y) (kH H x) = false := hs
    rw [List.pairwise_map] at hs
    show (zs.map (·.2)).Pairwise _
    rw [List.pairwise_map]
    refine List.Pairwise.imp_of_mem (fun {x y} hx hy r => ?_) hs
    rw [kH_of (tz x hx), kH_of (tz y hy)] at r
    exact r
theorem asc_eq {l m : List T} (hl : Asc l) (hm : Asc m) (p : l.Perm m) : l = m :=
  List.Perm.eq_of_pairwise (le := fun x y => lt2 y x = false) (fun a b _ _ h1 h2 => lt2_tri h2 h1) hl hm p

/-! ### isinstance -/
theorem isi_mk {K : PySem.W.Frag} {x : V} {n t : String} {r : Bool} {H : Hp} {Q : VK} (hx : TyX K H x (.type t)) (hk : kitB t n = some r) (q : Q (.bl r) H) : rIsi K [x, .ty n] H Q := ⟨_, _, _, _, _, rfl, .ty _, hx, kit_ty hk, q⟩
theorem isi_tup {K : PySem.W.Frag} {a : Addr} {xs : List V} {H : Hp} {Q : VK} (h : H a = some (.tup xs)) (q : Q (.bl true) H) : rIsi K [.ref a, .ty "tuple"] H Q := isi_mk (.base (.tup h)) (by decide +kernel) q
theorem isi_lst {K : PySem.W.Frag} {a : Addr} {xs : List V} {H : Hp} {Q : VK} (h : H a = some (.lst xs)) (q : Q (.bl true) H) : rIsi K [.ref a, .ty "list"] H Q := isi_mk (.base (.lst h)) (by decide +kernel) q

/-! ### lists of ints against [] -/
theorem lay_ints : ∀ l : List Int, PyData.canLayAll0 (l.map PyData.int) = true
  | [] => by simp [PyData.canLayAll0]
  | x :: l => by
    rw [List.map_cons]
    simp only [PyData.canLayAll0, PyData.canLay0]
    rw [lay_ints l]
    rfl
theorem depth_ints : ∀ l : List Int, PyData.depthAll (l.map PyData.int) ≤ 1
  | [] => by simp [PyData.depthAll]
  | x :: l => by
    rw [List.map_cons]
    have h2 := depth_ints l
    simp only [PyData.depthAll, PyData.depth]
    omega
theorem shaped_ints (l : List Int) : SeqAt.shaped (.list (l.map PyData.int)) = true := by
  unfold SeqAt.shaped
  have h1 : PyData.canLay0 (.list (l.map PyData.int)) = true := by
    simp only [PyData.canLay0]
    exact lay_ints l
  have h2 : PyData.depth (.list (l.map PyData.int)) ≤ 64 := by
    have := depth_ints l
    simp only [PyData.depth]
    omega
  rw [h1, Bool.true_and, decide_eq_true_iff]
  exact h2
theorem dp_ints {K : PySem.W.Frag} {H : Hp} {a : Addr} {l : List Int} (h : SqL K H a (l.map V.int)) : Dp K H (.ref a) (.list (l.map PyData.int)) := by
  refine .lst h ?_
  induction l generalizing a with
  | nil => exact .nil
  | cons x l ih => exact .cons (.int x) (all l)
where
  all {K : PySem.W.Frag} {H : Hp} : ∀ l : List Int, DpAll K H (l.map V.int) (l.map PyData.int)
    | [] => .nil
    | x :: l => .cons (.int x) (all l)
theorem eqv_ints_nil (l : List Int) : PyData.eqv (.list (l.map PyData.int)) (.list []) = decide (l = []) := by
  cases l with
  | nil => simp [PyData.eqv, PyData.eqvAll]
  | cons x l => simp [PyData.eqv, PyData.eqvAll]
theorem shaped_nil : SeqAt.shaped (.list []) = true := shaped_ints []
theorem neD_ints_nil {K : PySem.W.Frag} {H : Hp} {a b : Addr} {l : List Int} {Q : VK} (h : SqL K H a (l.map V.int)) (h2 : SqL K H b []) (q : Q (.bl (!decide (l = []))) H) : rNeD K (.ref a) (.ref b) H Q :=
  ⟨_, _, dp_ints h, .lst h2 .nil, shaped_ints l, shaped_nil, by rw [eqv_ints_nil]; exact q⟩
theorem eqD_ints_nil {K : PySem.W.Frag} {H : Hp} {a b : Addr} {l : List Int} {Q : VK} (h : SqL K H a (l.map V.int)) (h2 : SqL K H b []) (q : Q (.bl (decide (l = []))) H) : rEqD K (.ref a) (.ref b) H Q :=
  ⟨_, _, dp_ints h, .lst h2 .nil, shaped_ints l, shaped_nil, by rw [eqv_ints_nil]; exact q⟩
theorem dp_rf {K : PySem.W.Frag} {H : Hp} {a : Addr} {es : List En} (h : H a = some (.lst (rf es))) (ht : Tup H es) : Dp K H (.ref a) (lD (vl es)) := dp_l (SqL.of h) ht

/-! ### frames -/
theorem sql_same {K : PySem.W.Frag} {H H' : Hp} {a : Addr} {xs : List V} (e : Same H H') (h : SqL K H a xs) : SqL K H' a xs := by
  rcases h with (h | ⟨o, h⟩) | h
  · exact .inl (.inl (e _ _ h))
  · exact .inl (.inr ⟨o, e _ _ h⟩)
  · exact .inr h

/-- nothing but what stands at P has changed -/
def Fr (P : List Addr) (H H' : Hp) : Prop := ∀ b o, H b = some o → b ∉ P → H' b = some o
theorem none_back {H H' : Hp} {a : Addr} (s : Same H H') (h : H' a = none) : H a = none := by
  cases e : H a with
  | none => rfl
  | some o => rw [s _ _ e] at h; cases h
theorem Fr.refl (P : List Addr) (H : Hp) : Fr P H H := fun _ _ e _ => e
theorem Fr.trans {P : List Addr} {H H1 H2 : Hp} (x : Fr P H H1) (y : Fr P H1 H2) : Fr P H H2 := fun b o e h => y b o (x b o e h) h
theorem Fr.mono {P P' : List Addr} {H H' : Hp} (x : Fr P H H') (h : ∀ b ∈ P, b ∈ P') : Fr P' H H' := fun b o e n => x b o e fun z => n (h b z)
theorem Fr.of_same {P : List Addr} {H H' : Hp} (x : Same H H') : Fr P H H' := fun b o e _ => x b o e
theorem fr_upd {P : List Addr} {H : Hp} {a : Addr} {o : HO} (h : a ∈ P) : Fr P H (upd H a o) := fun b u e n => by
  rw [upd_ne (fun z => n (by rw [z]; exact h))]
  exact e
theorem fr_new {P : List Addr} {H : Hp} {a : Addr} {o : HO} (h : H a = none) : Fr P H (upd H a o) := Fr.of_same (same_new h)
/-- a list of the start, by what has changed since -/
theorem sql_fr {K : PySem.W.Frag} {P : List Addr} {H H' : Hp} {a : Addr} {xs : List V} (n : ∀ b ∈ P, H b = none) (e : Fr P H H') (h : SqL K H a xs) : SqL K H' a xs := by
  rcases h with (h | ⟨o, h⟩) | h
  · exact .inl (.inl (e _ _ h fun z => by rw [n _ z] at h; cases h))
  · exact .inl (.inr ⟨o, e _ _ h fun z => by rw [n _ z] at h; cases h⟩)
  · exact .inr h
theorem Tup.fr {P : List Addr} {H H' : Hp} {es : List En} (h : Tup H es) (f : Fr P H H') (hP : ∀ e ∈ es, e.1 ∉ P) : Tup H' es := fun e he => f _ _ (h e he) (hP e he)
theorem Tup.same {H H' : Hp} {es : List En} (h : Tup H es) (f : Same H H') : Tup H' es := fun e he => f _ _ (h e he)
end Mp
namespace Mp
open PySem PySem.Spec PyProof.Rows L2
theorem cut_ints (ns : List Int) (lo hi : Option Int) : ∃ cs : List Int, cutV (ns.map V.int) lo hi = cs.map V.int ∧ cs.length ≤ ns.length := by
  unfold cutV
  refine ⟨(ns.drop (HT.sIx (ns.map V.int).length 0 lo)).take (HT.sIx (ns.map V.int).length (ns.map V.int).length hi - HT.sIx (ns.map V.int).length 0 lo), ?_, ?_⟩
  · rw [List.map_take, List.map_drop]
  · rw [List.length_take, List.length_drop]
    omega
theorem seqIx {i n : Nat} (h : i < n) : seqIndex? (i : Int) n = some i := by
  unfold seqIndex?
  have h1 : ¬ ((i : Int) < 0) := by omega
  have h2 : (decide ((0 : Int) ≤ (i : Int)) && decide ((i : Int) < (n : Int))) = true := by
    rw [Bool.and_eq_true, decide_eq_true_iff, decide_eq_true_iff]
    omega
  simp only [if_neg h1, h2, if_true, Int.toNat_natCast]
theorem map_erase {α β : Type} (f : α → β) : ∀ (l : List α) (i : Nat), (l.map f).eraseIdx i = (l.eraseIdx i).map f
  | [], i => by simp
  | x :: l, 0 => by simp
  | x :: l, i + 1 => by rw [List.map_cons, List.eraseIdx_cons_succ, List.eraseIdx_cons_succ, List.map_cons, map_erase f l i]
/-- places apart, both ways -/
theorem nod2 {l : List Addr} (h : l.Nodup) : l.Pairwise fun a b => ¬ a = b ∧ ¬ b = a := List.Pairwise.imp (fun z => ⟨z, fun e => z e.symm⟩) h
theorem rf_snoc (es : List En) (x : En) : rf es ++ [V.ref x.1] = rf (es ++ [x]) := by
  show es.map (fun e => V.ref e.1) ++ [V.ref x.1] = (es ++ [x]).map fun e => V.ref e.1
  rw [List.map_append]
  rfl
theorem perm_erase {α : Type} {l : List α} {i : Nat} {x : α} (h : l[i]? = some x) : l.Perm (x :: l.eraseIdx i) := by
  induction l generalizing i with
  | nil => simp at h
  | cons y l ih =>
    cases i with
    | zero =>
      simp at h
      subst h
      exact List.Perm.refl _
    | succ i =>
      simp at h
      rw [List.eraseIdx_cons_succ]
      exact ((ih h).cons y).trans (List.Perm.swap x y _)
/-! ### loops, with the iterable read first -/
def foR (J : It) (g : TG) (tb : TS) (D : Ends) (σ : L2.St) (H1 : Hp) : Prop := ∃ W : Nat → Nat → L2.St → Hp → Prop, (∃ m, W 0 m σ H1) ∧ ∀ i m σ H, W i m σ H →
  (J.stop i H ∧ D.nx σ H) ∨ (J.go i H ∧ ∃ N : L2.St → Hp → Prop, (∀ σ' H', N σ' H' → ∃ m', m' < m ∧ W (i + 1) m' σ' H') ∧ ∀ x H', J.yld i H x H' → g x σ H' fun σ2 H2 => tb { D with nx := N, ct := N, bk := D.nx } σ2 H2)
def enR (K : PySem.W.Frag) (vs : List V) (H : Hp) (g : TG) (tb : TS) (D : Ends) (σ : L2.St) : Prop := ∃ a xs, vs = [.ref a] ∧ SqL K H a xs ∧ foR (Ite K a) g tb D σ H
def ziR (K : PySem.W.Frag) (vs : List V) (H : Hp) (g : TG) (tb : TS) (D : Ends) (σ : L2.St) : Prop := ∃ a b xs ys, vs = [.ref a, .ref b] ∧ SqL K H a xs ∧ SqL K H b ys ∧ foR (Itz K a b) g tb D σ H
def liR (K : PySem.W.Frag) (x : V) (H : Hp) (g : TG) (tb : TS) (D : Ends) (σ : L2.St) : Prop := ∃ a, x = .ref a ∧ (∃ xs, SqL K H a xs) ∧ foR (Itl K a) g tb D σ H
def r1R (vs : List V) (H : Hp) (g : TG) (tb : TS) (D : Ends) (σ : L2.St) : Prop := ∃ j : Int, vs = [.int j] ∧ -(2 ^ 62) ≤ j ∧ j < 2 ^ 62 ∧ foR (Itr 0 j.toNat) g tb D σ H
theorem tFor_enum {K : PySem.W.Frag} {ta : TA} {g : TG} {tb : TS} {D : Ends} {σ : L2.St} {H : Hp} : tFor (iEnum K ta) g tb D σ H = ta σ H fun vs H1 => enR K vs H1 g tb D σ := rfl
theorem tFor_zip {K : PySem.W.Frag} {ta : TA} {g : TG} {tb : TS} {D : Ends} {σ : L2.St} {H : Hp} : tFor (iZip K ta) g tb D σ H = ta σ H fun vs H1 => ziR K vs H1 g tb D σ := rfl
theorem tFor_list {K : PySem.W.Frag} {tl : TE} {g : TG} {tb : TS} {D : Ends} {σ : L2.St} {H : Hp} : tFor (iList K tl) g tb D σ H = tl σ H fun x H1 => liR K x H1 g tb D σ := rfl
theorem tFor_r1 {ta : TA} {g : TG} {tb : TS} {D : Ends} {σ : L2.St} {H : Hp} : tFor (iRng1 ta) g tb D σ H = ta σ H fun vs H1 => r1R vs H1 g tb D σ := rfl
theorem enR.mk {K : PySem.W.Frag} {a : Addr} {xs : List V} {H : Hp} {g : TG} {tb : TS} {D : Ends} {σ : L2.St} (h : SqL K H a xs) (Pv : Nat → L2.St → Hp → Prop) (h0 : Pv 0 σ H) (hl : ∀ i σ H, i ≤ xs.length → Pv i σ H → SqL K H a xs)
    (hs : ∀ i x σ H Tt, i < xs.length → xs[i]? = some x → Pv i σ H → H Tt = none → g (.ref Tt) σ (upd H Tt (.tup [.int (i : Nat), x])) fun σ2 H2 => tb { D with nx := Pv (i + 1), ct := Pv (i + 1), bk := D.nx } σ2 H2) (hd : ∀ σ H, Pv xs.length σ H → D.nx σ H) : enR K [.ref a] H g tb D σ :=
  ⟨a, xs, rfl, h, for_it (walk_enum (xs := xs)) Pv h0 hl (fun i v σ H4 H5 hi p ⟨Tt, x1, x2, e, hT, e5, e1, e2⟩ => by
    subst e e5
    cases e1
    exact hs i x2 σ H4 Tt hi e2 p hT) hd⟩
theorem liR.mk {K : PySem.W.Frag} {a : Addr} {xs : List V} {H : Hp} {g : TG} {tb : TS} {D : Ends} {σ : L2.St} (h : SqL K H a xs) (Pv : Nat → L2.St → Hp → Prop) (h0 : Pv 0 σ H) (hl : ∀ i σ H, i ≤ xs.length → Pv i σ H → SqL K H a xs)
    (hs : ∀ i x σ H, xs[i]? = some x → Pv i σ H → g x σ H fun σ2 H2 => tb { D with nx := Pv (i + 1), ct := Pv (i + 1), bk := D.nx } σ2 H2) (hd : ∀ σ H, Pv xs.length σ H → D.nx σ H) : liR K (.ref a) H g tb D σ :=
  ⟨a, rfl, ⟨xs, h⟩, for_list (xs := xs) Pv h0 hl hs hd⟩
theorem r1R.mk {n : Nat} {H : Hp} {g : TG} {tb : TS} {D : Ends} {σ : L2.St} (hn : n < 1000000) (Pv : Nat → L2.St → Hp → Prop) (h0 : Pv 0 σ H)
    (hs : ∀ i σ H, i < n → Pv i σ H → g (.int (i : Nat)) σ H fun σ2 H2 => tb { D with nx := Pv (i + 1), ct := Pv (i + 1), bk := D.nx } σ2 H2) (hd : ∀ σ H, Pv n σ H → D.nx σ H) : r1R [.int (n : Int)] H g tb D σ :=
  ⟨n, rfl, by omega, by omega, for_range (lo := 0) Pv h0 (fun i σ H hi p => by
    rw [Int.zero_add]
    exact hs i σ H hi p) hd⟩
/-- the two names of an enumerate -/
theorem gTup2 {K : PySem.W.Frag} {n i j : Nat} {Tt : Addr} {x y : V} {H : Hp} {σ : L2.St} {Q : L2.St → Hp → Prop} (h : H Tt = some (.tup [x, y])) (hn : n = 2) (q : Q ((σ.set i (some x)).set j (some y)) H) : gTup K n (gCons (gName i) (gCons (gName j) gNil)) (.ref Tt) σ H Q :=
  ⟨Tt, _, rfl, SqT.of h, hn.symm, _, _, rfl, _, _, rfl, rfl, q⟩
theorem bits_bl (n : Nat) : Builtin.Int.intBits ((n : Nat) : Int) = bl n := by
  unfold Builtin.Int.intBits bl
  rw [Int.natAbs_natCast]
  by_cases e : n = 0
  · subst e
    rfl
  · rw [if_neg e, if_neg]
    simp
    omega
theorem rNe_bl {i j : Bool} {H : Hp} {Q : VK} : rNe (.bl i) (.bl j) H Q = Q (.bl (!decide (i = j))) H := by
  unfold rNe
  rw [show decide (V.bl i = V.bl j) = decide (i = j) from by simp]
  simp [scal]
end Mp

/-! Rows: the mirror, its mathematics; rules for calls in a suite. -/
namespace Mp
open PySem PySem.Spec PyProof.Rows L2
/-! ### defs within an except suite -/
theorem _root_.L2H.RoomH.units {k : Nat} {A : Around} (r : L2H.RoomH k A) : A.units + 64 < cLine := by have := r.un; omega
theorem _root_.L2H.RoomH.units0 {k : Nat} {A : Around} (r : L2H.RoomH k A) : A.units < cLine := by have := r.un; omega
theorem huH_of {k : Nat} {A : Around} (r : L2H.RoomH k A) : A.units + 1 < cLine := by have := r.un; omega
structure FnHs (P : Program) (w : World) (K : PySem.W.Frag) (mg : Str → Option Value) (base : Heap) (k : Nat) (f : Addr) (ps : List Str) (sp : Sp) : Prop where
  ex : ∃ fd, L2H.FnH P w K mg base (L2.CX P w) k f fd ps sp ∧ Binds K fd ps []
  kp : PySem.W.keepIn K (.ref f) = true
/-- a def whose exceptions bear no context -/
structure FnN (P : Program) (w : World) (K : PySem.W.Frag) (mg : Str → Option Value) (base : Heap) (k : Nat) (f : Addr) (ps : List Str) (sp : Sp) : Prop where
  ex : ∃ fd, FnOk P w K mg base (L2N.CX P w) k f fd ps sp ∧ Binds K fd ps []
  kp : PySem.W.keepIn K (.ref f) = true
section
variable {X : Cx} {k j : Nat} {f C : Addr} {ps : List Str} {sp : Sp} {E : L2.St → XK} {x m : Str} {p pos apos : Pos} {e o : Expr} {es : List Expr} {ta : TE} {t : TA}
theorem pe_methFH {pl : Sem Bool} (he : PE X o ta) (c : Cls X.K C) (hm : Meth X.K C m f) (F : FnHs X.prog X.w X.K X.mg X.base k f ps sp) (hr : L2H.RoomH j X.A) (hot : L2H.HotC X) (hx : ∀ σ, PassesAt (L2.CX X.prog X.w) X σ (E σ)) (ha : PA X (e :: es) t) (hk : k ≤ j := by decide)
    (hst : starEach (e :: es) X.env = (false, eval e X.env) :: starEach es X.env := by rfl) (hpl : (backTo pos (starEach es X.env)).any (·.1) = false := by rfl)
    (ht : eval (.Call (.Attribute o m apos) (e :: es) [] pos) X.env = (do
      let ov ← eval o X.env
      standAt apos.atName
      let (f, first) ← holding [ov] (getMethod ov m pl)
      callWith pos f first (backTo pos (starEach (e :: es) X.env)) (backToKw pos (keywordEach [] X.env))) := by rfl) :
    PE X (.Call (.Attribute o m apos) (e :: es) [] pos) (tMethF C m sp E ta t) := by
  obtain ⟨fd, F1, hb⟩ := F.ex
  exact L2H.pe_methH he c hm F1 (hr.mono hk) hot hb hx ha hst hpl ht
theorem pe_methFN {pl : Sem Bool} (he : PE X o ta) (c : Cls X.K C) (hm : Meth X.K C m f) (F : FnN X.prog X.w X.K X.mg X.base k f ps sp) (hr : Room j X.A) (hx : ∀ σ, PassesAt (L2N.CX X.prog X.w) X σ (E σ)) (ha : PA X (e :: es) t) (hk : k ≤ j := by decide)
    (hst : starEach (e :: es) X.env = (false, eval e X.env) :: starEach es X.env := by rfl) (hpl : (backTo pos (starEach es X.env)).any (·.1) = false := by rfl)
    (ht : eval (.Call (.Attribute o m apos) (e :: es) [] pos) X.env = (do
      let ov ← eval o X.env
      standAt apos.atName
      let (f, first) ← holding [ov] (getMethod ov m pl)
      callWith pos f first (backTo pos (starEach (e :: es) X.env)) (backToKw pos (keywordEach [] X.env))) := by rfl) :
    PE X (.Call (.Attribute o m apos) (e :: es) [] pos) (tMethF C m sp E ta t) := by
  obtain ⟨fd, F1, hb⟩ := F.ex
  refine ⟨fun pins s σ H Q I h => ?_⟩
  refine PySem.W.methodCall_KW (pl := pl) (thn (he.run pins s σ H _ I h) fun u s1 ⟨x, H1, I1, rx, a, dx, fs, ex, ea, l, q⟩ => ?_) ht
  subst ex
  obtain rfl : u = Value.ref a := rx
  refine getmeth_ok I1 ea c hm l ?_
  refine PySem.W.callWith_K (first := [.ref a]) (h₀ := X.base) I.ok.mod.kin hm.kp (thn (ha.run pos pins s1 σ H1 _ I1 q) fun us s2 ⟨vs, H2, I2, r, q2⟩ => ⟨I2.kIn, ?_⟩) hst hpl
  exact run_fnS (us := .ref a :: us) (vs := .ref a :: vs) F1 (hr.mono hk) hb (hx σ) I2 (.cons rfl r) q2
/-- a field where the context's K is known -/
theorem pe_fldK {K : PySem.W.Frag} {fn : Str} (eK : X.K = K) (he : PE X o ta) (hb : attributeBase o fn X.env (eval o X.env) = eval o X.env) : PE X (.Attribute o fn pos) (tFld K ta fn) := eK ▸ pe_fld he hb
end
section
variable {P : Program} {w : World} {K : PySem.W.Frag} {mg : Str → Option Value} {base : Heap}
theorem fn_okN {x qual : Str} {st : Stmt} {f : Addr} {fd : FuncData} {N ps : List Str} {k : Nat} {sp : Sp} (F : FnP K x qual st f fd) (S : FnScope N ps (defScope st)) (len : ∀ vs H Q E, sp vs H Q E → vs.length = ps.length)
    (hb : ∀ (kV doc pm : Value) (an : Option Addr) (cdv ct : Value) (us : List Value), us.length = ps.length → bindArgs (PySem.W.fnOf x qual (defArgs st) (defBody st) (defScope st) .none kV doc pm an cdv ct) ⟨us, []⟩ = pure (ps.zip us))
    (hbody : ∀ (cdv : Value) (A : Around) (outer : List Env) (s : Shared) (H : Hp) (vs : List V) (Q : VK) (E : XK), Room k (A.deeper (envOfC qual (defScope st) s.heap.objs.size f cdv)) → sp vs H Q E →
      ∃ t, PSs (cxOf (L2N.CX P w) P w K mg base N qual (defScope st) f cdv A outer s H E) (defBody st) t ∧ t { nx := fun _ H' => Q .non H', rt := Q } (start N vs) H) : FnN P w K mg base (k + 1) f ps sp :=
  ⟨⟨fd, F.ok S len hbody, F.bindsN hb⟩, F.kp⟩
theorem fn_okHX {x qual : Str} {st : Stmt} {f : Addr} {fd : FuncData} {N ps : List Str} {k : Nat} {sp : Sp} (F : FnP K x qual st f fd) (S : FnScope N ps (defScope st)) (len : ∀ vs H Q E, sp vs H Q E → vs.length = ps.length)
    (hb : ∀ (kV doc pm : Value) (an : Option Addr) (cdv ct : Value) (us : List Value), us.length = ps.length → bindArgs (PySem.W.fnOf x qual (defArgs st) (defBody st) (defScope st) .none kV doc pm an cdv ct) ⟨us, []⟩ = pure (ps.zip us))
    (hbody : ∀ (cdv : Value) (A : Around) (outer : List Env) (s : Shared) (H : Hp) (vs : List V) (Q : VK) (E : XK) (p : Addr × Obj), L2H.Hot1 A p → L2H.RoomH k (A.deeper (envOfC qual (defScope st) s.heap.objs.size f cdv)) → sp vs H Q E →
      ∃ t, PSs (L2H.cxH (L2.CX P w) P w K mg base N qual (defScope st) f cdv A outer s H E p) (defBody st) t ∧ t { nx := fun _ H' => Q .non H', rt := Q } (start N vs) H) : FnHs P w K mg base (k + 1) f ps sp := by
  refine ⟨⟨fd, ?_, F.bindsN hb⟩, F.kp⟩
  obtain ⟨oc, od, dV, kV, doc, pm, an, cdv, ct, osl, rfl, lk, hcd, _, _⟩ := F.ex
  exact L2H.fn_ofH lk hcd S len fun A outer s H vs Q E p hot hr hsp => hbody cdv A outer s H vs Q E p hot hr hsp
theorem fn_okH {x qual : Str} {st : Stmt} {f : Addr} {fd : FuncData} {N ps : List Str} {k : Nat} {sp : Sp} (F : FnP K x qual st f fd) (S : FnScope N ps (defScope st)) (len : ∀ vs H Q E, sp vs H Q E → vs.length = ps.length)
    (hb : ∀ (kV doc pm : Value) (an : Option Addr) (cdv ct : Value) (us : List Value), us.length = ps.length → bindArgs (PySem.W.fnOf x qual (defArgs st) (defBody st) (defScope st) .none kV doc pm an cdv ct) ⟨us, []⟩ = pure (ps.zip us))
    (hbody : ∀ (cdv : Value) (A : Around) (outer : List Env) (s : Shared) (H : Hp) (vs : List V) (Q : VK) (E : XK) (p : Addr × Obj), L2H.Hot1 A p → L2H.RoomH k (A.deeper (envOfC qual (defScope st) s.heap.objs.size f cdv)) → sp vs H Q E →
      ∃ t, PSs (L2H.cxH (L2.CX P w) P w K mg base N qual (defScope st) f cdv A outer s H E p).nox (defBody st) t ∧ t { nx := fun _ H' => Q .non H', rt := Q } (start N vs) H) : FnHs P w K mg base (k + 1) f ps sp :=
  fn_okHX F S len hb fun cdv A outer s H vs Q E p hot hr hsp => by
    obtain ⟨t, h, q⟩ := hbody cdv A outer s H vs Q E p hot hr hsp
    exact ⟨t, h.nox, q⟩
/-- a maker with the defaults that fill up -/
structure FnI (P : Program) (w : World) (K : PySem.W.Frag) (mg : Str → Option Value) (base : Heap) (k : Nat) (f : Addr) (ps : List Str) (sp : Sp) (dvs : List V) : Prop where
  ex : ∃ fd ds, FnOk P w K mg base (L2.CX P w) k f fd ps sp ∧ Vals dvs ds ∧ Binds K fd ps ds
  kp : PySem.W.keepIn K (.ref f) = true
theorem pe_makeI0 {X : Cx} {k j : Nat} {f C : Addr} {ps : List Str} {sp : Sp} {dvs : List V} {E : XK} {x : Str} {p pos : Pos} (M : Mk X.K C f) (F : FnI X.prog X.w X.K X.mg X.base k f ps sp dvs) (hr : Room j X.A) (hm : X.mg x = some (.ref C)) (hx : Passes (L2.CX X.prog X.w) X E) (hk : k + 1 ≤ j := by decide) (hg : Gl X x := by rfl) (hdb : (x == ("__debug__" : Str)) = false := by decide) :
    PE X (.Call (.Name x p) [] [] pos) (tMake C sp dvs E tNil) := by
  obtain ⟨fd, ds, F1, hd, hb⟩ := F.ex
  exact pe_make0 M F1 (hr.mono hk) hg hm hb hd hx hdb
theorem pe_makeI {X : Cx} {k j : Nat} {f C : Addr} {ps : List Str} {sp : Sp} {dvs : List V} {E : XK} {x : Str} {p pos : Pos} {e : Expr} {es : List Expr} {t : TA} (M : Mk X.K C f) (F : FnI X.prog X.w X.K X.mg X.base k f ps sp dvs) (hr : Room j X.A) (hm : X.mg x = some (.ref C)) (hx : Passes (L2.CX X.prog X.w) X E) (ha : PA X (e :: es) t) (hk : k + 1 ≤ j := by decide) (hg : Gl X x := by rfl) (hdb : (x == ("__debug__" : Str)) = false := by decide)
    (he : starEach (e :: es) X.env = (false, eval e X.env) :: starEach es X.env := by rfl) (hpl : (backTo pos (starEach es X.env)).any (·.1) = false := by rfl) :
    PE X (.Call (.Name x p) (e :: es) [] pos) (tMake C sp dvs E t) := by
  obtain ⟨fd, ds, F1, hd, hb⟩ := F.ex
  exact pe_make M F1 (hr.mono hk) hg hm hb hd hx ha hdb he hpl
end

/-! ### numbers: the dict of a row -/
def numK (ks : List T) : Kvs := ks.map fun t => ((Sum.inl t.2 : Key), V.int t.1)
theorem numK_keys (ks : List T) : (numK ks).map (·.1) = (ks.map (·.2)).map (Sum.inl : Int → Key) := by
  unfold numK
  rw [List.map_map, List.map_map]
  rfl
theorem numK_none {ks : List T} {c : Int} (h : c ∉ ks.map (·.2)) : valV (numK ks) (Sum.inl c) = none := by
  rw [valV_none_iff, numK_keys]
  intro m
  obtain ⟨z, hz, q⟩ := List.mem_map.mp m
  exact h (Sum.inl.inj q ▸ hz)
theorem numK_some : ∀ {ks : List T} {t : T}, (ks.map (·.2)).Nodup → t ∈ ks → valV (numK ks) (Sum.inl t.2) = some (V.int t.1)
  | [], t, _, h => by cases h
  | x :: ks, t, nd, h => by
    obtain ⟨n1, n2⟩ := List.nodup_cons.mp nd
    show valV (((Sum.inl x.2 : Key), V.int x.1) :: numK ks) _ = _
    rcases List.mem_cons.mp h with rfl | h
    · rw [valV_pos rfl]
    · rw [valV_neg (fun q => n1 (List.mem_map.mpr ⟨t, h, (Sum.inl.inj q).symm⟩))]
      exact numK_some n2 h
theorem numK_put {ks : List T} {n c : Int} (h : c ∉ ks.map (·.2)) : putK (numK ks) (Sum.inl c) (V.int n) = numK (ks ++ [(n, c)]) := by
  unfold putK
  rw [if_neg]
  · unfold numK
    rw [List.map_append]
    rfl
  · intro m
    obtain ⟨p, hp, q⟩ := List.any_eq_true.mp m
    obtain ⟨t, ht, e⟩ := List.mem_map.mp hp
    subst e
    have q := Sum.inl.inj (of_decide_eq_true q)
    exact h (q ▸ List.mem_map.mpr ⟨t, ht, rfl⟩)
theorem numK_drop_no : ∀ {ks : List T} {c : Int}, c ∉ ks.map (·.2) → dropK (numK ks) (Sum.inl c) = numK ks
  | [], c, _ => rfl
  | x :: ks, c, h => by
    show dropK (((Sum.inl x.2 : Key), V.int x.1) :: numK ks) _ = _
    rw [dropK_neg (fun q => h (by rw [← Sum.inl.inj q]; exact List.mem_cons_self)), numK_drop_no (fun m => h (List.mem_cons_of_mem _ m))]
    rfl
theorem numK_drop : ∀ {ks : List T} {i : Nat} {t : T}, (ks.map (·.2)).Nodup → ks[i]? = some t → dropK (numK ks) (Sum.inl t.2) = numK (ks.eraseIdx i)
  | [], i, t, _, h => by simp at h
  | x :: ks, 0, t, nd, h => by
    simp at h
    subst h
    obtain ⟨n1, n2⟩ := List.nodup_cons.mp nd
    show dropK (((Sum.inl x.2 : Key), V.int x.1) :: numK ks) _ = _
    rw [dropK_pos rfl, numK_drop_no n1]
    rfl
  | x :: ks, i + 1, t, nd, h => by
    simp at h
    obtain ⟨n1, n2⟩ := List.nodup_cons.mp nd
    show dropK (((Sum.inl x.2 : Key), V.int x.1) :: numK ks) _ = _
    rw [dropK_neg (fun q => n1 (List.mem_map.mpr ⟨t, List.mem_of_getElem? h, (Sum.inl.inj q).symm⟩)), numK_drop n2 h]
    rfl

/-! ### the change of two piles -/
theorem df_le_len : ∀ (a b : List En), df a b ≤ a.length ∧ df a b ≤ b.length
  | [], b => by simp [df]
  | x :: a, [] => by simp [df]
  | x :: a, y :: b => by
    have h := df_le_len a b
    rw [df_cons]
    simp only [List.length_cons]
    split <;> omega
theorem df_tri : ∀ (a b c : List En), df a c ≤ df a b + df b c + (c.length - b.length)
  | [], b, c => by simp [df]
  | x :: a, b, [] => by simp [df]
  | x :: a, [], z :: c => by
    have h := (df_le_len (x :: a) (z :: c)).2
    simp only [List.length_cons, List.length_nil] at *
    omega
  | x :: a, y :: b, z :: c => by
    have h := df_tri a b c
    rw [df_cons, df_cons, df_cons]
    simp only [List.length_cons]
    by_cases e1 : x.2 = z.2
    · rw [if_pos e1]; omega
    · rw [if_neg e1]
      by_cases e2 : x.2 = y.2
      · rw [if_pos e2, if_neg (fun q => e1 (e2.trans q))]; omega
      · rw [if_neg e2]; omega
/-- both piles of a row, before and behind settling -/
structure SetOk (lo hi lo' hi' : Sx) (due : Nat) : Prop where
  pm : (lo'.1 ++ hi'.1).Perm (lo.1 ++ hi.1)
  ord : ∀ x ∈ lo'.1, ∀ y ∈ hi'.1, lt2 x.2 y.2 = true
  len : lo'.1.length = due
  same : lo.1.length = due → lo' = lo ∧ hi' = hi
  one : due ≤ lo.1.length + 1 → lo.1.length ≤ due + 1 → df lo.1 lo'.1 ≤ bl lo.1.length ∧ df hi.1 hi'.1 ≤ bl hi.1.length
structure RwOk (pt wh cm : Int) (lo hi : Sx) (ks : List T) : Prop where
  ord : ∀ x ∈ lo.1, ∀ y ∈ hi.1, lt2 x.2 y.2 = true
  pm : (vl lo.1 ++ vl hi.1).Perm ks
  nd : (ks.map (·.2)).Nodup
  cmb : ∀ t ∈ ks, 1 ≤ t.2 ∧ t.2 ≤ cm
  cm0 : 0 ≤ cm
  sh : ¬ BadS pt wh
  pb : pt.natAbs < 2 ^ 250
  wb : wh.natAbs < 2 ^ 250
  len : (lo.1.length : Int) = placeM (ks.length : Int) pt wh
theorem RwOk.tot {pt wh cm : Int} {lo hi : Sx} {ks : List T} (R : RwOk pt wh cm lo hi ks) : lo.1.length + hi.1.length = ks.length := by
  have := R.pm.length_eq
  simpa using this
/-! ### one step of settling -/
structure SI (lo hi lo1 hi1 : Sx) (mv : Nat) : Prop where
  pm : (lo1.1 ++ hi1.1).Perm (lo.1 ++ hi.1)
  ord : ∀ x ∈ lo1.1, ∀ y ∈ hi1.1, lt2 x.2 y.2 = true
  z : mv = 0 → lo1 = lo ∧ hi1 = hi
  o : mv = 1 → df lo.1 lo1.1 ≤ bl lo.1.length ∧ df hi.1 hi1.1 ≤ bl hi.1.length
theorem nd_app {l m : List En} (nd : ((l ++ m).map (·.2.2)).Nodup) {x y : En} (hx : x ∈ l) (hy : y ∈ m) : x.2.2 ≠ y.2.2 := by
  rw [List.map_append] at nd
  exact (List.nodup_append.mp nd).2.2 _ (List.mem_map.mpr ⟨x, hx, rfl⟩) _ (List.mem_map.mpr ⟨y, hy, rfl⟩)
theorem nd_head {e : En} {l m : List En} (nd : (m.map (·.2.2)).Nodup) (p : (e :: l).Perm m) {x : En} (hx : x ∈ l) : x.2.2 ≠ e.2.2 := fun q => by
  have n := (p.map (·.2.2)).nodup_iff.mpr nd
  exact (List.nodup_cons.mp n).1 (List.mem_map.mpr ⟨x, hx, q⟩)
theorem lt2_of {a b : T} (h : lt2 b a = false) (ne : a.2 ≠ b.2) : lt2 a b = true := by
  cases q : lt2 a b with
  | true => rfl
  | false => exact absurd (congrArg (·.2) (lt2_tri q h)) ne
theorem SI.down {lo hi lo1 hi1 lo2 hi2 : Sx} {mv : Nat} {e : En} (S : SI lo hi lo1 hi1 mv) (nd : ((lo1.1 ++ hi1.1).map (·.2.2)).Nodup) (top : ∀ x ∈ lo1.1, lt2 e.2 x.2 = false) (p1 : (e :: lo2.1).Perm lo1.1) (p2 : hi2.1.Perm (e :: hi1.1))
    (d1 : df lo1.1 lo2.1 ≤ bl (lo1.1.length - 1)) (d2 : df hi1.1 hi2.1 ≤ bl hi1.1.length) : SI lo hi lo2 hi2 (mv + 1) := by
  have ndl : (lo1.1.map (·.2.2)).Nodup := by
    rw [List.map_append] at nd
    exact (List.nodup_append.mp nd).1
  refine ⟨?_, fun x hx y hy => ?_, fun h => by omega, fun h => ?_⟩
  · refine List.Perm.trans ?_ S.pm
    refine (List.Perm.append_left _ p2).trans ?_
    refine List.perm_middle.trans ?_
    exact List.Perm.append_right hi1.1 p1
  · have hx1 := p1.mem_iff.mp (List.mem_cons_of_mem e hx)
    rcases List.mem_cons.mp (p2.mem_iff.mp hy) with q | q
    · subst q
      exact lt2_of (top x hx1) (nd_head ndl p1 hx)
    · exact S.ord x hx1 y q
  · obtain ⟨q1, q2⟩ := S.z (by omega)
    subst q1 q2
    exact ⟨Nat.le_trans d1 (bl_mono (by omega)), d2⟩
theorem SI.up {lo hi lo1 hi1 lo2 hi2 : Sx} {mv : Nat} {e : En} (S : SI lo hi lo1 hi1 mv) (nd : ((lo1.1 ++ hi1.1).map (·.2.2)).Nodup) (top : ∀ y ∈ hi1.1, lt2 y.2 e.2 = false) (p1 : lo2.1.Perm (e :: lo1.1)) (p2 : (e :: hi2.1).Perm hi1.1)
    (d1 : df lo1.1 lo2.1 ≤ bl lo1.1.length) (d2 : df hi1.1 hi2.1 ≤ bl (hi1.1.length - 1)) : SI lo hi lo2 hi2 (mv + 1) := by
  have ndh : (hi1.1.map (·.2.2)).Nodup := by
    rw [List.map_append] at nd
    exact (List.nodup_append.mp nd).2.1
  refine ⟨?_, fun x hx y hy => ?_, fun h => by omega, fun h => ?_⟩
  · refine List.Perm.trans ?_ S.pm
    refine (List.Perm.append_right _ p1).trans ?_
    refine (List.perm_middle (l₁ := lo1.1) (a := e) (l₂ := hi2.1)).symm.trans ?_
    exact List.Perm.append_left lo1.1 p2
  · have hy1 := p2.mem_iff.mp (List.mem_cons_of_mem e hy)
    rcases List.mem_cons.mp (p1.mem_iff.mp hx) with q | q
    · subst q
      exact lt2_of (top y hy1) (fun z => nd_head ndh p2 hy z.symm)
    · exact S.ord x q y hy1
  · obtain ⟨q1, q2⟩ := S.z (by omega)
    subst q1 q2
    exact ⟨d1, Nat.le_trans d2 (bl_mono (by omega))⟩
theorem SI.start {lo hi : Sx} (ho : ∀ x ∈ lo.1, ∀ y ∈ hi.1, lt2 x.2 y.2 = true) : SI lo hi lo hi 0 := ⟨List.Perm.refl _, ho, fun _ => ⟨rfl, rfl⟩, fun h => by cases h⟩
theorem SI.fin {lo hi lo1 hi1 : Sx} {mv due : Nat} (S : SI lo hi lo1 hi1 mv) (h : lo1.1.length + mv = lo.1.length ∨ lo1.1.length = lo.1.length + mv) (e : lo1.1.length = due) : SetOk lo hi lo1 hi1 due := by
  refine ⟨S.pm, S.ord, e, fun q => S.z (by omega), fun h1 h2 => ?_⟩
  have : mv = 0 ∨ mv = 1 := by omega
  rcases this with q | q
  · obtain ⟨q1, q2⟩ := S.z q
    subst q1 q2
    rw [df_self, df_self]
    exact ⟨Nat.zero_le _, Nat.zero_le _⟩
  · exact S.o q
theorem bl_succ (n : Nat) : bl (n + 1) ≤ bl n + 1 := by
  unfold bl
  rw [if_neg (by omega)]
  by_cases z : n = 0
  · subst z
    decide
  · rw [if_neg z]
    have h1 : (n + 1).log2 ≤ n.log2 + 1 := by
      by_cases k : (n + 1).log2 = 0
      · omega
      · have h2 := Nat.log2_self_le (n := n + 1) (by omega)
        have h3 : 2 ^ ((n + 1).log2 - 1) ≤ n := by
          have e : 2 ^ (n + 1).log2 = 2 * 2 ^ ((n + 1).log2 - 1) := by
            rw [← Nat.pow_succ']
            congr 1
            omega
          omega
        have h4 := (Nat.le_log2 z).mpr h3
        omega
    omega
theorem bl_pos {n : Nat} (h : 0 < n) : 1 ≤ bl n := by
  unfold bl
  rw [if_neg (by omega)]
  omega
theorem df4 {a b c : List En} {n : Nat} (h1 : df a b ≤ bl n) (h2 : df b c ≤ bl (n + 1)) (hl : c.length ≤ b.length + 1) (ha : a.length ≤ n) : df a c ≤ 4 * bl n := by
  by_cases z : n = 0
  · have := (df_le_len a c).1
    omega
  · have h3 := df_tri a b c
    have h4 := bl_succ n
    have h5 := bl_pos (n := n) (by omega)
    omega
theorem df1 {a b : List En} {n m : Nat} (h1 : df a b ≤ bl m) (hm : m ≤ n) : df a b ≤ 4 * bl n := by
  have := bl_mono hm
  omega
section
variable {pt wh cm : Int} {lo hi lo1 hi1 lo2 hi2 : Sx} {ks : List T}
theorem SetOk.rw {due : Nat} {ks' : List T} {cm' : Int} (S : SetOk lo1 hi1 lo2 hi2 due) (R : RwOk pt wh cm lo hi ks) (pm : (vl lo1.1 ++ vl hi1.1).Perm ks') (nd : (ks'.map (·.2)).Nodup) (hc : ∀ t ∈ ks', 1 ≤ t.2 ∧ t.2 ≤ cm') (c0 : 0 ≤ cm') (hd : placeM (ks'.length : Int) pt wh = (due : Int)) : RwOk pt wh cm' lo2 hi2 ks' := by
  refine ⟨S.ord, ?_, nd, hc, c0, R.sh, R.pb, R.wb, by rw [hd, S.len]⟩
  have p := S.pm.map (·.2)
  rw [List.map_append, List.map_append] at p
  exact p.trans pm
theorem RwOk.ndE (R : RwOk pt wh cm lo hi ks) : ((lo.1 ++ hi.1).map (·.2.2)).Nodup := by
  have p := (R.pm.map (·.2)).nodup_iff.mpr R.nd
  rw [List.map_append] at p
  rw [List.map_append]
  simp only [vl, List.map_map] at p
  exact p
theorem RwOk.mem (R : RwOk pt wh cm lo hi ks) {t : T} : t ∈ ks ↔ (∃ e ∈ lo.1, e.2 = t) ∨ ∃ e ∈ hi.1, e.2 = t := by
  rw [← R.pm.mem_iff, List.mem_append, List.mem_map, List.mem_map]
end
theorem modlt (z : Int) {n : Nat} (hn : 0 < n) : ∃ i : Nat, i < n ∧ z % (n : Int) = (i : Int) :=
  ⟨(z % (n : Int)).toNat, by have := Int.emod_lt_of_pos z (b := (n : Int)) (by omega); have := Int.emod_nonneg z (b := (n : Int)) (by omega); omega, by have := Int.emod_nonneg z (b := (n : Int)) (by omega); omega⟩
theorem ks_uniq {ks : List T} (nd : (ks.map (·.2)).Nodup) {t u : T} (ht : t ∈ ks) (hu : u ∈ ks) (e : t.2 = u.2) : t = u := by
  have h1 := numK_some nd ht
  have h2 := numK_some nd hu
  rw [e, h2] at h1
  have h3 := V.int.inj (Option.some.inj h1)
  exact Prod.ext h3.symm e
theorem gE_at {l : List En} {i : Nat} (h : i < l.length) : (rf l)[i]? = some (V.ref (gE l i).1) := by rw [List.getElem?_map, gE_some h]; rfl
theorem at_gE {l : List En} {i : Nat} (h : i < l.length) : atI (rf l) (i : Int) = some (V.ref (gE l i).1) := at_of (j := i) rfl (gE_at h)
theorem vl_gE {l : List En} {i : Nat} (h : i < l.length) : (gE l i).2 ∈ vl l := List.mem_map.mpr ⟨_, gE_mem h, rfl⟩
theorem cm_gE {l : List En} {i : Nat} (h : i < l.length) : (gE l i).2.2 ∈ (vl l).map (·.2) := List.mem_map.mpr ⟨_, vl_gE h, rfl⟩
theorem nil_dec (l : List En) : decide (vl l = []) = decide (l = []) := by simp [vl]
theorem pe_callI {X : Cx} {k j : Nat} {f : Addr} {ps : List Str} {sp : Sp} {dvs : List V} {E : L2.St → XK} {x : Str} {p pos : Pos} {e : Expr} {es : List Expr} {t : TA} (F : FnI X.prog X.w X.K X.mg X.base k f ps sp dvs) (hr : Room j X.A) (hm : X.mg x = some (.ref f)) (hx : ∀ σ, PassesAt (L2.CX X.prog X.w) X σ (E σ)) (ha : PA X (e :: es) t) (hk : k ≤ j := by decide) (hg : Gl X x := by rfl)
    (hdb : (x == ("__debug__" : Str)) = false := by decide) (he : starEach (e :: es) X.env = (false, eval e X.env) :: starEach es X.env := by rfl) (hpl : (backTo pos (starEach es X.env)).any (·.1) = false := by rfl) :
    PE X (.Call (.Name x p) (e :: es) [] pos) (tCallSD sp dvs E t) := by
  obtain ⟨fd, ds, F1, hd, hb⟩ := F.ex
  exact pe_callSD F1 (hr.mono hk) hg hm F.kp hb hd hx ha hdb he hpl
theorem same_fr {P : List Addr} {H H1 H2 : Hp} (n : ∀ b ∈ P, H b = none) (s : Same H H1) (f : Fr P H1 H2) : Same H H2 := fun b o e => f _ _ (s _ _ e) fun m => by rw [n b m] at e; cases e
/-! ### windows -/
def winT (ns : List Int) (lo n : Nat) : List T := (List.range n).map fun k => (ns.getD (lo + k) 0, ((lo + k : Nat) : Int) + 1)
theorem winT_len (ns : List Int) (lo n : Nat) : (winT ns lo n).length = n := by unfold winT; rw [List.length_map, List.length_range]
theorem winT_snoc (ns : List Int) (lo n : Nat) : winT ns lo n ++ [(ns.getD (lo + n) 0, ((lo + n : Nat) : Int) + 1)] = winT ns lo (n + 1) := by
  unfold winT
  rw [List.range_succ, List.map_append]
  rfl
theorem winT_tail (ns : List Int) (lo n : Nat) : (winT ns lo (n + 1)).eraseIdx 0 = winT ns (lo + 1) n := by
  unfold winT
  rw [List.range_succ_eq_map, List.map_cons, List.eraseIdx_cons_zero, List.map_map]
  refine List.map_congr_left fun k _ => ?_
  show (ns.getD (lo + (k + 1)) 0, ((lo + (k + 1) : Nat) : Int) + 1) = _
  rw [show lo + (k + 1) = lo + 1 + k from by omega]
theorem winT_mem {ns : List Int} {lo n : Nat} {t : T} : t ∈ winT ns lo n ↔ ∃ k, k < n ∧ t = (ns.getD (lo + k) 0, ((lo + k : Nat) : Int) + 1) := by
  unfold winT
  rw [List.mem_map]
  constructor
  · rintro ⟨k, hk, e⟩
    exact ⟨k, List.mem_range.mp hk, e.symm⟩
  · rintro ⟨k, hk, e⟩
    exact ⟨k, List.mem_range.mpr hk, e.symm⟩
/-- how many of a window come ahead of r -/
def befW (ns : List Int) (s w : Nat) (r : T) : Nat := (List.range w).countP fun k => lt2 (ns.getD (s + k) 0, ((s + k : Nat) : Int)) r
structure WOk (ns : List Int) (s w : Nat) (pt wh : Int) (r : T) : Prop where
  ix : ∃ j, j < w ∧ r = (ns.getD (s + j) 0, ((s + j : Nat) : Int))
  lo : (w : Int) * pt ≤ ((befW ns s w r : Nat) + 1 : Int) * wh
  up : befW ns s w r = 0 ∨ ((befW ns s w r : Nat) : Int) * wh < (w : Int) * pt
theorem count_lo {lo : List En} {e : En} (he : e ∈ lo) (top : ∀ x ∈ lo, lt2 e.2 x.2 = false) (nd : (lo.map (·.2.2)).Nodup) : (vl lo).countP (fun t => lt2 t e.2) = lo.length - 1 := by
  obtain ⟨i, hi⟩ := mem_iff_get.mp he
  have p := perm_erase hi
  have h1 := (p.map (·.2)).countP_eq (fun t => lt2 t e.2)
  show (lo.map (·.2)).countP _ = _
  rw [h1, List.map_cons, List.countP_cons, lt2_irr]
  have h2 : ((lo.eraseIdx i).map (·.2)).countP (fun t => lt2 t e.2) = (lo.eraseIdx i).length := by
    rw [← List.length_map (f := (·.2)) (as := lo.eraseIdx i)]
    refine List.countP_eq_length.mpr fun t ht => ?_
    obtain ⟨x, hx, q⟩ := List.mem_map.mp ht
    subst q
    have hxl := List.mem_of_mem_eraseIdx hx
    refine lt2_of (top x hxl) fun z => ?_
    have nd2 := (p.map (·.2.2)).nodup_iff.mp nd
    exact (List.nodup_cons.mp nd2).1 (List.mem_map.mpr ⟨x, hx, z⟩)
  have h3 := List.length_eraseIdx_of_lt (lt_of_get hi)
  rw [h2, h3]
  simp
theorem RwOk.bef {pt wh cm : Int} {lo hi : Sx} {ks : List T} (R : RwOk pt wh cm lo hi ks) {e : En} (he : e ∈ lo.1) (top : ∀ x ∈ lo.1, lt2 e.2 x.2 = false) : ks.countP (fun t => lt2 t e.2) = lo.1.length - 1 := by
  rw [← R.pm.countP_eq, List.countP_append]
  have nl : (lo.1.map (·.2.2)).Nodup := by
    have := R.ndE
    rw [List.map_append] at this
    exact (List.nodup_append.mp this).1
  rw [count_lo he top nl]
  have : (vl hi.1).countP (fun t => lt2 t e.2) = 0 := by
    refine List.countP_eq_zero.mpr fun t ht => ?_
    obtain ⟨y, hy, q⟩ := List.mem_map.mp ht
    subst q
    rw [lt2_asym (R.ord e he y hy)]
    simp
  omega
theorem win_ok {pt wh cm : Int} {lo hi : Sx} {ns : List Int} {s w : Nat} (hw : 1 ≤ w) (R : RwOk pt wh cm lo hi (winT ns s w)) {e : En} (he : e ∈ lo.1) (top : ∀ x ∈ lo.1, lt2 e.2 x.2 = false) : WOk ns s w pt wh (e.2.1, e.2.2 - 1) := by
  have hm : e.2 ∈ winT ns s w := R.mem.mpr (.inl ⟨e, he, rfl⟩)
  obtain ⟨k, hk, ek⟩ := winT_mem.mp hm
  have hb : befW ns s w (e.2.1, e.2.2 - 1) = lo.1.length - 1 := by
    rw [← R.bef he top]
    unfold befW winT
    rw [List.countP_map]
    congr 1
    funext k
    show lt2 _ _ = lt2 _ _
    unfold lt2
    dsimp only
    congr 1
    rw [decide_eq_decide]
    omega
  have hl := R.len
  rw [winT_len] at hl
  obtain ⟨p1, p2, p3, p4⟩ := place_spec (m := (w : Int)) (by omega) R.sh
  have hb1 : ((befW ns s w (e.2.1, e.2.2 - 1) : Nat) : Int) = placeM (w : Int) pt wh - 1 := by rw [hb]; omega
  refine ⟨⟨k, hk, ?_⟩, ?_, ?_⟩
  · rw [ek]
    exact Prod.ext rfl (by show ((s + k : Nat) : Int) + 1 - 1 = _; omega)
  · rw [hb1]
    rw [Int.sub_add_cancel]
    exact p3
  · rcases p4 with q | q
    · exact .inl (by omega)
    · exact .inr (by rw [hb1]; exact q)
theorem eqv_ints_self : ∀ l : List Int, PyData.eqvAll (l.map PyData.int) (l.map PyData.int) = true
  | [] => by simp [PyData.eqvAll]
  | x :: l => by
    rw [List.map_cons]
    simp only [PyData.eqvAll, PyData.eqv]
    rw [eqv_ints_self l]
    simp
theorem eqD_ints_same {K : PySem.W.Frag} {H : Hp} {a b : Addr} {l : List Int} {Q : VK} (h : SqL K H a (l.map V.int)) (h2 : SqL K H b (l.map V.int)) (q : Q (.bl true) H) : rEqD K (.ref a) (.ref b) H Q :=
  ⟨_, _, dp_ints h, dp_ints h2, shaped_ints l, shaped_ints l, by
    rw [show PyData.eqv (.list (l.map PyData.int)) (.list (l.map PyData.int)) = true from by simp only [PyData.eqv]; exact eqv_ints_self l]
    exact q⟩
end Mp

/-! ### places, scopes and facts of the top -/
namespace Mp
open PySem PySem.Spec PyProof.Rows L2
def topAt (i : Nat) : Stmt := PySem.Challenge.pw_midpile_k06_whole_share_told.main.body.getD i (.Pass ⟨0, 0, 0, 0⟩)
abbrev s_Pile___init__ : Stmt := inClass (topAt 9) 0
abbrev N_Pile___init__ : List Str := ["self"]
abbrev P_Pile___init__ : List Str := ["self"]
theorem sc_Pile___init__ : FnScope N_Pile___init__ P_Pile___init__ (defScope s_Pile___init__) := ⟨rfl, rfl, rfl, by decide +kernel, rfl, by decide +kernel, by decide +kernel⟩
def d_Pile___init__ : He.DefD := ⟨("Pile", some "__init__"), "__init__", "Pile.__init__", defArgs s_Pile___init__, defBody s_Pile___init__, defScope s_Pile___init__, [], []⟩
abbrev s_Pile_ahead : Stmt := inClass (topAt 9) 1
abbrev N_Pile_ahead : List Str := ["self", "one", "other"]
abbrev P_Pile_ahead : List Str := ["self", "one", "other"]
theorem sc_Pile_ahead : FnScope N_Pile_ahead P_Pile_ahead (defScope s_Pile_ahead) := ⟨rfl, rfl, rfl, by decide +kernel, rfl, by decide +kernel, by decide +kernel⟩
def d_Pile_ahead : He.DefD := ⟨("Pile", some "ahead"), "ahead", "Pile.ahead", defArgs s_Pile_ahead, defBody s_Pile_ahead, defScope s_Pile_ahead, [], []⟩
abbrev s_Pile_many : Stmt := inClass (topAt 9) 2
abbrev N_Pile_many : List Str := ["self"]
abbrev P_Pile_many : List Str := ["self"]
theorem sc_Pile_many : FnScope N_Pile_many P_Pile_many (defScope s_Pile_many) := ⟨rfl, rfl, rfl, by decide +kernel, rfl, by decide +kernel, by decide +kernel⟩
def d_Pile_many : He.DefD := ⟨("Pile", some "many"), "many", "Pile.many", defArgs s_Pile_many, defBody s_Pile_many, defScope s_Pile_many, [], []⟩
abbrev s_Pile_told : Stmt := inClass (topAt 9) 3
abbrev N_Pile_told : List Str := ["self"]
abbrev P_Pile_told : List Str := ["self"]
theorem sc_Pile_told : FnScope N_Pile_told P_Pile_told (defScope s_Pile_told) := ⟨rfl, rfl, rfl, by decide +kernel, rfl, by decide +kernel, by decide +kernel⟩
def d_Pile_told : He.DefD := ⟨("Pile", some "told"), "told", "Pile.told", defArgs s_Pile_told, defBody s_Pile_told, defScope s_Pile_told, [], []⟩
abbrev s_Pile_top : Stmt := inClass (topAt 9) 5
abbrev N_Pile_top : List Str := ["self"]
abbrev P_Pile_top : List Str := ["self"]
theorem sc_Pile_top : FnScope N_Pile_top P_Pile_top (defScope s_Pile_top) := ⟨rfl, rfl, rfl, by decide +kernel, rfl, by decide +kernel, by decide +kernel⟩
def d_Pile_top : He.DefD := ⟨("Pile", some "top"), "top", "Pile.top", defArgs s_Pile_top, defBody s_Pile_top, defScope s_Pile_top, [], []⟩
abbrev s_Pile_lay : Stmt := inClass (topAt 9) 6
abbrev N_Pile_lay : List Str := ["self", "at", "thing"]
abbrev P_Pile_lay : List Str := ["self", "at", "thing"]
theorem sc_Pile_lay : FnScope N_Pile_lay P_Pile_lay (defScope s_Pile_lay) := ⟨rfl, rfl, rfl, by decide +kernel, rfl, by decide +kernel, by decide +kernel⟩
def d_Pile_lay : He.DefD := ⟨("Pile", some "lay"), "lay", "Pile.lay", defArgs s_Pile_lay, defBody s_Pile_lay, defScope s_Pile_lay, [], []⟩
abbrev s_Pile_rise : Stmt := inClass (topAt 9) 7
abbrev N_Pile_rise : List Str := ["self", "at", "thing"]
abbrev P_Pile_rise : List Str := ["self", "at"]
theorem sc_Pile_rise : FnScope N_Pile_rise P_Pile_rise (defScope s_Pile_rise) := ⟨rfl, rfl, rfl, by decide +kernel, rfl, by decide +kernel, by decide +kernel⟩
def d_Pile_rise : He.DefD := ⟨("Pile", some "rise"), "rise", "Pile.rise", defArgs s_Pile_rise, defBody s_Pile_rise, defScope s_Pile_rise, [], []⟩
abbrev s_Pile_sink : Stmt := inClass (topAt 9) 8
abbrev N_Pile_sink : List Str := ["self", "at", "thing", "below"]
abbrev P_Pile_sink : List Str := ["self", "at"]
theorem sc_Pile_sink : FnScope N_Pile_sink P_Pile_sink (defScope s_Pile_sink) := ⟨rfl, rfl, rfl, by decide +kernel, rfl, by decide +kernel, by decide +kernel⟩
def d_Pile_sink : He.DefD := ⟨("Pile", some "sink"), "sink", "Pile.sink", defArgs s_Pile_sink, defBody s_Pile_sink, defScope s_Pile_sink, [], []⟩
abbrev s_Pile_put : Stmt := inClass (topAt 9) 9
abbrev N_Pile_put : List Str := ["self", "thing"]
abbrev P_Pile_put : List Str := ["self", "thing"]
theorem sc_Pile_put : FnScope N_Pile_put P_Pile_put (defScope s_Pile_put) := ⟨rfl, rfl, rfl, by decide +kernel, rfl, by decide +kernel, by decide +kernel⟩
def d_Pile_put : He.DefD := ⟨("Pile", some "put"), "put", "Pile.put", defArgs s_Pile_put, defBody s_Pile_put, defScope s_Pile_put, [], []⟩
abbrev s_Pile_take : Stmt := inClass (topAt 9) 10
abbrev N_Pile_take : List Str := ["self", "coming", "at", "thing", "last"]
abbrev P_Pile_take : List Str := ["self", "coming"]
theorem sc_Pile_take : FnScope N_Pile_take P_Pile_take (defScope s_Pile_take) := ⟨rfl, rfl, rfl, by decide +kernel, rfl, by decide +kernel, by decide +kernel⟩
def d_Pile_take : He.DefD := ⟨("Pile", some "take"), "take", "Pile.take", defArgs s_Pile_take, defBody s_Pile_take, defScope s_Pile_take, [], []⟩
abbrev s_Turned_ahead : Stmt := inClass (topAt 10) 0
abbrev N_Turned_ahead : List Str := ["self", "one", "other"]
abbrev P_Turned_ahead : List Str := ["self", "one", "other"]
theorem sc_Turned_ahead : FnScope N_Turned_ahead P_Turned_ahead (defScope s_Turned_ahead) := ⟨rfl, rfl, rfl, by decide +kernel, rfl, by decide +kernel, by decide +kernel⟩
def d_Turned_ahead : He.DefD := ⟨("Turned", some "ahead"), "ahead", "Turned.ahead", defArgs s_Turned_ahead, defBody s_Turned_ahead, defScope s_Turned_ahead, [], []⟩
abbrev s_place : Stmt := topAt 12
abbrev N_place : List Str := ["many", "part", "whole", "full", "rest"]
abbrev P_place : List Str := ["many", "part", "whole"]
theorem sc_place : FnScope N_place P_place (defScope s_place) := ⟨rfl, rfl, rfl, by decide +kernel, rfl, by decide +kernel, by decide +kernel⟩
def d_place : He.DefD := ⟨("place", none), "place", "place", defArgs s_place, defBody s_place, defScope s_place, [], []⟩
abbrev s_Midrow___init__ : Stmt := inClass (topAt 14) 0
abbrev N_Midrow___init__ : List Str := ["self", "part", "whole"]
abbrev P_Midrow___init__ : List Str := ["self", "part", "whole"]
theorem sc_Midrow___init__ : FnScope N_Midrow___init__ P_Midrow___init__ (defScope s_Midrow___init__) := ⟨rfl, rfl, rfl, by decide +kernel, rfl, by decide +kernel, by decide +kernel⟩
def d_Midrow___init__ : He.DefD := ⟨("Midrow", some "__init__"), "__init__", "Midrow.__init__", defArgs s_Midrow___init__, defBody s_Midrow___init__, defScope s_Midrow___init__, [.int 1, .int 2], []⟩
abbrev s_Midrow_many : Stmt := inClass (topAt 14) 1
abbrev N_Midrow_many : List Str := ["self"]
abbrev P_Midrow_many : List Str := ["self"]
theorem sc_Midrow_many : FnScope N_Midrow_many P_Midrow_many (defScope s_Midrow_many) := ⟨rfl, rfl, rfl, by decide +kernel, rfl, by decide +kernel, by decide +kernel⟩
def d_Midrow_many : He.DefD := ⟨("Midrow", some "many"), "many", "Midrow.many", defArgs s_Midrow_many, defBody s_Midrow_many, defScope s_Midrow_many, [], []⟩
abbrev s_Midrow_settle : Stmt := inClass (topAt 14) 2
abbrev N_Midrow_settle : List Str := ["self", "due"]
abbrev P_Midrow_settle : List Str := ["self"]
theorem sc_Midrow_settle : FnScope N_Midrow_settle P_Midrow_settle (defScope s_Midrow_settle) := ⟨rfl, rfl, rfl, by decide +kernel, rfl, by decide +kernel, by decide +kernel⟩
def d_Midrow_settle : He.DefD := ⟨("Midrow", some "settle"), "settle", "Midrow.settle", defArgs s_Midrow_settle, defBody s_Midrow_settle, defScope s_Midrow_settle, [], []⟩
abbrev s_Midrow_put : Stmt := inClass (topAt 14) 3
abbrev N_Midrow_put : List Str := ["self", "number", "thing"]
abbrev P_Midrow_put : List Str := ["self", "number"]
theorem sc_Midrow_put : FnScope N_Midrow_put P_Midrow_put (defScope s_Midrow_put) := ⟨rfl, rfl, rfl, by decide +kernel, rfl, by decide +kernel, by decide +kernel⟩
def d_Midrow_put : He.DefD := ⟨("Midrow", some "put"), "put", "Midrow.put", defArgs s_Midrow_put, defBody s_Midrow_put, defScope s_Midrow_put, [], []⟩
abbrev s_Midrow_take : Stmt := inClass (topAt 14) 4
abbrev N_Midrow_take : List Str := ["self", "coming", "thing"]
abbrev P_Midrow_take : List Str := ["self", "coming"]
theorem sc_Midrow_take : FnScope N_Midrow_take P_Midrow_take (defScope s_Midrow_take) := ⟨rfl, rfl, rfl, by decide +kernel, rfl, by decide +kernel, by decide +kernel⟩
def d_Midrow_take : He.DefD := ⟨("Midrow", some "take"), "take", "Midrow.take", defArgs s_Midrow_take, defBody s_Midrow_take, defScope s_Midrow_take, [], []⟩
abbrev s_Midrow_number_of : Stmt := inClass (topAt 14) 5
abbrev N_Midrow_number_of : List Str := ["self", "coming"]
abbrev P_Midrow_number_of : List Str := ["self", "coming"]
theorem sc_Midrow_number_of : FnScope N_Midrow_number_of P_Midrow_number_of (defScope s_Midrow_number_of) := ⟨rfl, rfl, rfl, by decide +kernel, rfl, by decide +kernel, by decide +kernel⟩
def d_Midrow_number_of : He.DefD := ⟨("Midrow", some "number_of"), "number_of", "Midrow.number_of", defArgs s_Midrow_number_of, defBody s_Midrow_number_of, defScope s_Midrow_number_of, [], []⟩
abbrev s_Midrow_oldest : Stmt := inClass (topAt 14) 6
abbrev N_Midrow_oldest : List Str := ["self", "coming"]
abbrev P_Midrow_oldest : List Str := ["self"]
theorem sc_Midrow_oldest : FnScope N_Midrow_oldest P_Midrow_oldest (defScope s_Midrow_oldest) := ⟨rfl, rfl, rfl, by decide +kernel, rfl, by decide +kernel, by decide +kernel⟩
def d_Midrow_oldest : He.DefD := ⟨("Midrow", some "oldest"), "oldest", "Midrow.oldest", defArgs s_Midrow_oldest, defBody s_Midrow_oldest, defScope s_Midrow_oldest, [], []⟩
abbrev s_Midrow_share : Stmt := inClass (topAt 14) 7
abbrev N_Midrow_share : List Str := ["self"]
abbrev P_Midrow_share : List Str := ["self"]
theorem sc_Midrow_share : FnScope N_Midrow_share P_Midrow_share (defScope s_Midrow_share) := ⟨rfl, rfl, rfl, by decide +kernel, rfl, by decide +kernel, by decide +kernel⟩
def d_Midrow_share : He.DefD := ⟨("Midrow", some "share"), "share", "Midrow.share", defArgs s_Midrow_share, defBody s_Midrow_share, defScope s_Midrow_share, [], []⟩
abbrev s_Midrow_piles : Stmt := inClass (topAt 14) 8
abbrev N_Midrow_piles : List Str := ["self"]
abbrev P_Midrow_piles : List Str := ["self"]
theorem sc_Midrow_piles : FnScope N_Midrow_piles P_Midrow_piles (defScope s_Midrow_piles) := ⟨rfl, rfl, rfl, by decide +kernel, rfl, by decide +kernel, by decide +kernel⟩
def d_Midrow_piles : He.DefD := ⟨("Midrow", some "piles"), "piles", "Midrow.piles", defArgs s_Midrow_piles, defBody s_Midrow_piles, defScope s_Midrow_piles, [], []⟩
abbrev s_Midrow_turn : Stmt := inClass (topAt 14) 9
abbrev N_Midrow_turn : List Str := ["self", "part", "whole"]
abbrev P_Midrow_turn : List Str := ["self", "part", "whole"]
theorem sc_Midrow_turn : FnScope N_Midrow_turn P_Midrow_turn (defScope s_Midrow_turn) := ⟨rfl, rfl, rfl, by decide +kernel, rfl, by decide +kernel, by decide +kernel⟩
def d_Midrow_turn : He.DefD := ⟨("Midrow", some "turn"), "turn", "Midrow.turn", defArgs s_Midrow_turn, defBody s_Midrow_turn, defScope s_Midrow_turn, [], []⟩
abbrev s_law_at : Stmt := topAt 16
abbrev N_law_at : List Str := ["_law_script", "_law_k"]
abbrev P_law_at : List Str := ["_law_script", "_law_k"]
theorem sc_law_at : FnScope N_law_at P_law_at (defScope s_law_at) := ⟨rfl, rfl, rfl, by decide +kernel, rfl, by decide +kernel, by decide +kernel⟩
def d_law_at : He.DefD := ⟨("_law_at", none), "_law_at", "_law_at", defArgs s_law_at, defBody s_law_at, defScope s_law_at, [], []⟩
abbrev s_law_is : Stmt := topAt 17
abbrev N_law_is : List Str := ["_law_found", "_law_due"]
abbrev P_law_is : List Str := ["_law_found", "_law_due"]
theorem sc_law_is : FnScope N_law_is P_law_is (defScope s_law_is) := ⟨rfl, rfl, rfl, by decide +kernel, rfl, by decide +kernel, by decide +kernel⟩
def d_law_is : He.DefD := ⟨("_law_is", none), "_law_is", "_law_is", defArgs s_law_is, defBody s_law_is, defScope s_law_is, [], []⟩
abbrev s_law_number : Stmt := topAt 18
abbrev N_law_number : List Str := ["_law_load", "_law_rest"]
abbrev P_law_number : List Str := ["_law_load"]
theorem sc_law_number : FnScope N_law_number P_law_number (defScope s_law_number) := ⟨rfl, rfl, rfl, by decide +kernel, rfl, by decide +kernel, by decide +kernel⟩
def d_law_number : He.DefD := ⟨("_law_number", none), "_law_number", "_law_number", defArgs s_law_number, defBody s_law_number, defScope s_law_number, [], []⟩
abbrev s_law_numbers : Stmt := topAt 19
abbrev N_law_numbers : List Str := ["_law_cell", "_law_many", "_law_kind", "_law_now", "_law_found", "_law_k"]
abbrev P_law_numbers : List Str := ["_law_cell", "_law_many"]
theorem sc_law_numbers : FnScope N_law_numbers P_law_numbers (defScope s_law_numbers) := ⟨rfl, rfl, rfl, by decide +kernel, rfl, by decide +kernel, by decide +kernel⟩
def d_law_numbers : He.DefD := ⟨("_law_numbers", none), "_law_numbers", "_law_numbers", defArgs s_law_numbers, defBody s_law_numbers, defScope s_law_numbers, [], []⟩
abbrev s_law_thing : Stmt := topAt 20
abbrev N_law_thing : List Str := ["_law_found"]
abbrev P_law_thing : List Str := ["_law_found"]
theorem sc_law_thing : FnScope N_law_thing P_law_thing (defScope s_law_thing) := ⟨rfl, rfl, rfl, by decide +kernel, rfl, by decide +kernel, by decide +kernel⟩
def d_law_thing : He.DefD := ⟨("_law_thing", none), "_law_thing", "_law_thing", defArgs s_law_thing, defBody s_law_thing, defScope s_law_thing, [], []⟩
abbrev s_law_form : Stmt := topAt 21
abbrev N_law_form : List Str := ["_law_told", "_law_turned_here", "_law_k", "_law_above"]
abbrev P_law_form : List Str := ["_law_told", "_law_turned_here"]
theorem sc_law_form : FnScope N_law_form P_law_form (defScope s_law_form) := ⟨rfl, rfl, rfl, by decide +kernel, rfl, by decide +kernel, by decide +kernel⟩
def d_law_form : He.DefD := ⟨("_law_form", none), "_law_form", "_law_form", defArgs s_law_form, defBody s_law_form, defScope s_law_form, [], []⟩
abbrev s_law_empty : Stmt := topAt 22
abbrev N_law_empty : List Str := ["_law_row", "e", "_law_others"]
abbrev P_law_empty : List Str := ["_law_row"]
theorem sc_law_empty : FnScope N_law_empty P_law_empty (defScope s_law_empty) := ⟨rfl, rfl, rfl, by decide +kernel, rfl, by decide +kernel, by decide +kernel⟩
def d_law_empty : He.DefD := ⟨("_law_empty", none), "_law_empty", "_law_empty", defArgs s_law_empty, defBody s_law_empty, defScope s_law_empty, [], []⟩
abbrev s_law_no_share : Stmt := topAt 23
abbrev N_law_no_share : List Str := ["_law_row", "_law_part", "_law_whole", "e", "_law_others"]
abbrev P_law_no_share : List Str := ["_law_row", "_law_part", "_law_whole"]
theorem sc_law_no_share : FnScope N_law_no_share P_law_no_share (defScope s_law_no_share) := ⟨rfl, rfl, rfl, by decide +kernel, rfl, by decide +kernel, by decide +kernel⟩
def d_law_no_share : He.DefD := ⟨("_law_no_share", none), "_law_no_share", "_law_no_share", defArgs s_law_no_share, defBody s_law_no_share, defScope s_law_no_share, [], []⟩
abbrev s_law_no_row : Stmt := topAt 24
abbrev N_law_no_row : List Str := ["_law_part", "_law_whole", "e", "_law_others"]
abbrev P_law_no_row : List Str := ["_law_part", "_law_whole"]
theorem sc_law_no_row : FnScope N_law_no_row P_law_no_row (defScope s_law_no_row) := ⟨rfl, rfl, rfl, by decide +kernel, rfl, by decide +kernel, by decide +kernel⟩
def d_law_no_row : He.DefD := ⟨("_law_no_row", none), "_law_no_row", "_law_no_row", defArgs s_law_no_row, defBody s_law_no_row, defScope s_law_no_row, [], []⟩
abbrev s_law_made : Stmt := topAt 25
abbrev N_law_made : List Str := ["_law_cell", "_law_part", "_law_whole"]
abbrev P_law_made : List Str := ["_law_cell", "_law_part", "_law_whole"]
theorem sc_law_made : FnScope N_law_made P_law_made (defScope s_law_made) := ⟨rfl, rfl, rfl, by decide +kernel, rfl, by decide +kernel, by decide +kernel⟩
def d_law_made : He.DefD := ⟨("_law_made", none), "_law_made", "_law_made", defArgs s_law_made, defBody s_law_made, defScope s_law_made, [], []⟩
abbrev s_law_no_thing : Stmt := topAt 26
abbrev N_law_no_thing : List Str := ["_law_row", "_law_coming"]
abbrev P_law_no_thing : List Str := ["_law_row", "_law_coming"]
theorem sc_law_no_thing : FnScope N_law_no_thing P_law_no_thing (defScope s_law_no_thing) := ⟨rfl, rfl, rfl, by decide +kernel, rfl, by decide +kernel, by decide +kernel⟩
def d_law_no_thing : He.DefD := ⟨("_law_no_thing", none), "_law_no_thing", "_law_no_thing", defArgs s_law_no_thing, defBody s_law_no_thing, defScope s_law_no_thing, [], []⟩
abbrev s_law_put : Stmt := topAt 27
abbrev N_law_put : List Str := ["_law_row", "_law_kept", "_law_state", "_law_number_here"]
abbrev P_law_put : List Str := ["_law_row", "_law_kept", "_law_state", "_law_number_here"]
theorem sc_law_put : FnScope N_law_put P_law_put (defScope s_law_put) := ⟨rfl, rfl, rfl, by decide +kernel, rfl, by decide +kernel, by decide +kernel⟩
def d_law_put : He.DefD := ⟨("_law_put", none), "_law_put", "_law_put", defArgs s_law_put, defBody s_law_put, defScope s_law_put, [], []⟩
abbrev s_law_taken : Stmt := topAt 28
abbrev N_law_taken : List Str := ["_law_row", "_law_kept", "_law_at_here", "_law_thing_here"]
abbrev P_law_taken : List Str := ["_law_row", "_law_kept", "_law_at_here"]
theorem sc_law_taken : FnScope N_law_taken P_law_taken (defScope s_law_taken) := ⟨rfl, rfl, rfl, by decide +kernel, rfl, by decide +kernel, by decide +kernel⟩
def d_law_taken : He.DefD := ⟨("_law_taken", none), "_law_taken", "_law_taken", defArgs s_law_taken, defBody s_law_taken, defScope s_law_taken, [], []⟩
abbrev s_law_taken_here : Stmt := topAt 29
abbrev N_law_taken_here : List Str := ["_law_row", "_law_kept", "_law_thing_here"]
abbrev P_law_taken_here : List Str := ["_law_row", "_law_kept", "_law_thing_here"]
theorem sc_law_taken_here : FnScope N_law_taken_here P_law_taken_here (defScope s_law_taken_here) := ⟨rfl, rfl, rfl, by decide +kernel, rfl, by decide +kernel, by decide +kernel⟩
def d_law_taken_here : He.DefD := ⟨("_law_taken_here", none), "_law_taken_here", "_law_taken_here", defArgs s_law_taken_here, defBody s_law_taken_here, defScope s_law_taken_here, [], []⟩
abbrev s_law_asked : Stmt := topAt 30
abbrev N_law_asked : List Str := ["_law_row", "_law_kept", "_law_coming", "_law_some", "_law_one"]
abbrev P_law_asked : List Str := ["_law_row", "_law_kept", "_law_coming"]
theorem sc_law_asked : FnScope N_law_asked P_law_asked (defScope s_law_asked) := ⟨rfl, rfl, rfl, by decide +kernel, rfl, by decide +kernel, by decide +kernel⟩
def d_law_asked : He.DefD := ⟨("_law_asked", none), "_law_asked", "_law_asked", defArgs s_law_asked, defBody s_law_asked, defScope s_law_asked, [], []⟩
abbrev s_law_turned : Stmt := topAt 31
abbrev N_law_turned : List Str := ["_law_row", "_law_state", "_law_load", "_law_whole", "_law_part", "_law_bad"]
abbrev P_law_turned : List Str := ["_law_row", "_law_state", "_law_load"]
theorem sc_law_turned : FnScope N_law_turned P_law_turned (defScope s_law_turned) := ⟨rfl, rfl, rfl, by decide +kernel, rfl, by decide +kernel, by decide +kernel⟩
def d_law_turned : He.DefD := ⟨("_law_turned", none), "_law_turned", "_law_turned", defArgs s_law_turned, defBody s_law_turned, defScope s_law_turned, [], []⟩
abbrev s_law_deed : Stmt := topAt 32
abbrev N_law_deed : List Str := ["_law_row", "_law_kept", "_law_state", "_law_cell", "_law_way", "_law_load", "_law_near"]
abbrev P_law_deed : List Str := ["_law_row", "_law_kept", "_law_state", "_law_cell"]
theorem sc_law_deed : FnScope N_law_deed P_law_deed (defScope s_law_deed) := ⟨rfl, rfl, rfl, by decide +kernel, rfl, by decide +kernel, by decide +kernel⟩
def d_law_deed : He.DefD := ⟨("_law_deed", none), "_law_deed", "_law_deed", defArgs s_law_deed, defBody s_law_deed, defScope s_law_deed, [], []⟩
abbrev s_law_at_place : Stmt := topAt 33
abbrev N_law_at_place : List Str := ["_law_before", "_law_kept", "_law_state", "_law_place_due"]
abbrev P_law_at_place : List Str := ["_law_before", "_law_kept", "_law_state"]
theorem sc_law_at_place : FnScope N_law_at_place P_law_at_place (defScope s_law_at_place) := ⟨rfl, rfl, rfl, by decide +kernel, rfl, by decide +kernel, by decide +kernel⟩
def d_law_at_place : He.DefD := ⟨("_law_at_place", none), "_law_at_place", "_law_at_place", defArgs s_law_at_place, defBody s_law_at_place, defScope s_law_at_place, [], []⟩
abbrev s_law_look : Stmt := topAt 34
abbrev N_law_look : List Str := ["_law_row", "_law_kept", "_law_state", "_law_flip", "_law_held", "_law_both", "_law_one", "_law_told", "_law_before"]
abbrev P_law_look : List Str := ["_law_row", "_law_kept", "_law_state", "_law_flip", "_law_held"]
theorem sc_law_look : FnScope N_law_look P_law_look (defScope s_law_look) := ⟨rfl, rfl, rfl, by decide +kernel, rfl, by decide +kernel, by decide +kernel⟩
def d_law_look : He.DefD := ⟨("_law_look", none), "_law_look", "_law_look", defArgs s_law_look, defBody s_law_look, defScope s_law_look, [], []⟩
abbrev s_law : Stmt := topAt 35
abbrev N_law : List Str := ["_law_script", "_law_whole", "_law_part", "_law_bad", "_law_made_here", "_law_row", "_law_kept", "_law_state", "_law_held", "_law_many", "_law_number_here", "_law_k", "_law_cell", "_law_pair"]
abbrev P_law : List Str := ["_law_script"]
theorem sc_law : FnScope N_law P_law (defScope s_law) := ⟨rfl, rfl, rfl, by decide +kernel, rfl, by decide +kernel, by decide +kernel⟩
def d_law : He.DefD := ⟨("law", none), "law", "law", defArgs s_law, defBody s_law, defScope s_law, [], []⟩
def fa : List He.Fa := [.glo "MidError", .glo "NoShare", .glo "NoThing", .glo "Empty", .glo "Twice", .glo "NoWidth", .glo "Pile", .glo "Turned", .glo "place", .glo "Midrow", .glo "_law_at", .glo "_law_is", .glo "_law_number", .glo "_law_numbers", .glo "_law_thing", .glo "_law_form", .glo "_law_empty", .glo "_law_no_share", .glo "_law_no_row", .glo "_law_made", .glo "_law_no_thing", .glo "_law_put", .glo "_law_taken", .glo "_law_taken_here", .glo "_law_asked", .glo "_law_turned", .glo "_law_deed", .glo "_law_at_place", .glo "_law_look", .glo "law", .free "len", .free "list", .free "divmod", .free "max", .free "isinstance", .free "int", .free "bool", .free "range", .free "tuple", .free "ValueError", .free "min", .free "sorted", .free "enumerate", .exc "MidError", .exc "NoShare", .exm "NoShare" "MidError" true, .exm "NoShare" "NoShare" true, .exc "NoThing", .exm "NoThing" "MidError" true, .exm "NoThing" "NoThing" true, .exc "Empty", .exm "Empty" "MidError" true, .exm "Empty" "Empty" true, .exc "Twice", .exm "Twice" "MidError" true, .exm "Twice" "Twice" true, .exc "NoWidth", .exm "NoWidth" "MidError" true, .exm "NoWidth" "NoWidth" true, .cls "Pile", .noat "Pile" "things", .noat "Pile" "where", .noat "Pile" "heavy", .mkr "Pile", .meth "Pile" "ahead", .meth "Pile" "many", .meth "Pile" "told", .meth "Pile" "top", .meth "Pile" "lay", .meth "Pile" "rise", .meth "Pile" "sink", .meth "Pile" "put", .meth "Pile" "take", .cls "Turned", .noat "Turned" "things", .noat "Turned" "where", .noat "Turned" "heavy", .mkr "Turned", .meth "Turned" "ahead", .meth "Turned" "many", .meth "Turned" "told", .meth "Turned" "top", .meth "Turned" "lay", .meth "Turned" "rise", .meth "Turned" "sink", .meth "Turned" "put", .meth "Turned" "take", .cls "Midrow", .noat "Midrow" "part", .noat "Midrow" "whole", .noat "Midrow" "low", .noat "Midrow" "high", .noat "Midrow" "numbers", .noat "Midrow" "came", .mkr "Midrow", .meth "Midrow" "many", .meth "Midrow" "settle", .meth "Midrow" "put", .meth "Midrow" "take", .meth "Midrow" "number_of", .meth "Midrow" "oldest", .meth "Midrow" "share", .meth "Midrow" "piles", .meth "Midrow" "turn"]
def fb : List Fb := [.exc "NoShare", .kit "NoShare" "NoShare" true, .kitT "NoShare" "ValueError" true, .kitL "NoShare" ["Empty", "NoThing", "NoWidth", "Twice"] false, .exc "NoThing", .kit "NoThing" "NoThing" true, .kitT "NoThing" "ValueError" true, .exc "Empty", .kit "Empty" "Empty" true, .kitT "Empty" "ValueError" true, .kitL "Empty" ["NoShare", "NoThing", "NoWidth", "Twice"] false, .exc "Twice", .kit "Twice" "Twice" true, .kitT "Twice" "ValueError" true, .exc "NoWidth", .kit "NoWidth" "NoWidth" true, .kitT "NoWidth" "ValueError" true, .ins "Pile", .ins "Turned", .inh "Turned" "Pile" "many", .inh "Turned" "Pile" "told", .inh "Turned" "Pile" "top", .inh "Turned" "Pile" "lay", .inh "Turned" "Pile" "rise", .inh "Turned" "Pile" "sink", .inh "Turned" "Pile" "put", .inh "Turned" "Pile" "take", .inh "Turned" "Pile" "__init__", .kit "Turned" "Pile" true, .kit "Pile" "Pile" true, .ins "Midrow"]
def fn : List He.DefD := [d_Pile___init__, d_Pile_ahead, d_Pile_many, d_Pile_told, d_Pile_top, d_Pile_lay, d_Pile_rise, d_Pile_sink, d_Pile_put, d_Pile_take, d_Turned_ahead, d_place, d_Midrow___init__, d_Midrow_many, d_Midrow_settle, d_Midrow_put, d_Midrow_take, d_Midrow_number_of, d_Midrow_oldest, d_Midrow_share, d_Midrow_piles, d_Midrow_turn, d_law_at, d_law_is, d_law_number, d_law_numbers, d_law_thing, d_law_form, d_law_empty, d_law_no_share, d_law_no_row, d_law_made, d_law_no_thing, d_law_put, d_law_taken, d_law_taken_here, d_law_asked, d_law_turned, d_law_deed, d_law_at_place, d_law_look, d_law]
/-- what the top has written -/
structure Tx (K : PySem.W.Frag) (mg : Str → Option Value) : Prop where
  g_MidError : mg "MidError" = some (.ref (He.ga K "MidError"))
  g_NoShare : mg "NoShare" = some (.ref (He.ga K "NoShare"))
  g_NoThing : mg "NoThing" = some (.ref (He.ga K "NoThing"))
  g_Empty : mg "Empty" = some (.ref (He.ga K "Empty"))
  g_Twice : mg "Twice" = some (.ref (He.ga K "Twice"))
  g_NoWidth : mg "NoWidth" = some (.ref (He.ga K "NoWidth"))
  g_Pile : mg "Pile" = some (.ref (He.ga K "Pile"))
  g_Turned : mg "Turned" = some (.ref (He.ga K "Turned"))
  g_place : mg "place" = some (.ref (He.ga K "place"))
  g_Midrow : mg "Midrow" = some (.ref (He.ga K "Midrow"))
  g__law_at : mg "_law_at" = some (.ref (He.ga K "_law_at"))
  g__law_is : mg "_law_is" = some (.ref (He.ga K "_law_is"))
  g__law_number : mg "_law_number" = some (.ref (He.ga K "_law_number"))
  g__law_numbers : mg "_law_numbers" = some (.ref (He.ga K "_law_numbers"))
  g__law_thing : mg "_law_thing" = some (.ref (He.ga K "_law_thing"))
  g__law_form : mg "_law_form" = some (.ref (He.ga K "_law_form"))
  g__law_empty : mg "_law_empty" = some (.ref (He.ga K "_law_empty"))
  g__law_no_share : mg "_law_no_share" = some (.ref (He.ga K "_law_no_share"))
  g__law_no_row : mg "_law_no_row" = some (.ref (He.ga K "_law_no_row"))
  g__law_made : mg "_law_made" = some (.ref (He.ga K "_law_made"))
  g__law_no_thing : mg "_law_no_thing" = some (.ref (He.ga K "_law_no_thing"))
  g__law_put : mg "_law_put" = some (.ref (He.ga K "_law_put"))
  g__law_taken : mg "_law_taken" = some (.ref (He.ga K "_law_taken"))
  g__law_taken_here : mg "_law_taken_here" = some (.ref (He.ga K "_law_taken_here"))
  g__law_asked : mg "_law_asked" = some (.ref (He.ga K "_law_asked"))
  g__law_turned : mg "_law_turned" = some (.ref (He.ga K "_law_turned"))
  g__law_deed : mg "_law_deed" = some (.ref (He.ga K "_law_deed"))
  g__law_at_place : mg "_law_at_place" = some (.ref (He.ga K "_law_at_place"))
  g__law_look : mg "_law_look" = some (.ref (He.ga K "_law_look"))
  g_law : mg "law" = some (.ref (He.ga K "law"))
  z_len : mg "len" = none
  z_list : mg "list" = none
  z_divmod : mg "divmod" = none
  z_max : mg "max" = none
  z_isinstance : mg "isinstance" = none
  z_int : mg "int" = none
  z_bool : mg "bool" = none
  z_range : mg "range" = none
  z_tuple : mg "tuple" = none
  z_ValueError : mg "ValueError" = none
  z_min : mg "min" = none
  z_sorted : mg "sorted" = none
  z_enumerate : mg "enumerate" = none
  xc_MidError : PySem.W.excIn K (He.ga K "MidError") He.veBase "ValueError.__new__" = true ∧ PySem.W.keepIn K (.ref (He.ga K "MidError")) = true ∧ PySem.W.subIn K (.ref (He.ga K "MidError")) (.type "BaseException") = some true ∧ PySem.W.typeIn K (.ref (He.ga K "MidError")) = some (.type "type")
  xc_NoShare : PySem.W.excIn K (He.ga K "NoShare") He.veBase "ValueError.__new__" = true ∧ PySem.W.keepIn K (.ref (He.ga K "NoShare")) = true ∧ PySem.W.subIn K (.ref (He.ga K "NoShare")) (.type "BaseException") = some true ∧ PySem.W.typeIn K (.ref (He.ga K "NoShare")) = some (.type "type")
  em_NoShare : PySem.W.exmOne K (.ref (He.ga K "NoShare")) (.ref (He.ga K "MidError")) = some true
  es_NoShare : PySem.W.exmOne K (.ref (He.ga K "NoShare")) (.ref (He.ga K "NoShare")) = some true
  xc_NoThing : PySem.W.excIn K (He.ga K "NoThing") He.veBase "ValueError.__new__" = true ∧ PySem.W.keepIn K (.ref (He.ga K "NoThing")) = true ∧ PySem.W.subIn K (.ref (He.ga K "NoThing")) (.type "BaseException") = some true ∧ PySem.W.typeIn K (.ref (He.ga K "NoThing")) = some (.type "type")
  em_NoThing : PySem.W.exmOne K (.ref (He.ga K "NoThing")) (.ref (He.ga K "MidError")) = some true
  es_NoThing : PySem.W.exmOne K (.ref (He.ga K "NoThing")) (.ref (He.ga K "NoThing")) = some true
  xc_Empty : PySem.W.excIn K (He.ga K "Empty") He.veBase "ValueError.__new__" = true ∧ PySem.W.keepIn K (.ref (He.ga K "Empty")) = true ∧ PySem.W.subIn K (.ref (He.ga K "Empty")) (.type "BaseException") = some true ∧ PySem.W.typeIn K (.ref (He.ga K "Empty")) = some (.type "type")
  em_Empty : PySem.W.exmOne K (.ref (He.ga K "Empty")) (.ref (He.ga K "MidError")) = some true
  es_Empty : PySem.W.exmOne K (.ref (He.ga K "Empty")) (.ref (He.ga K "Empty")) = some true
  xc_Twice : PySem.W.excIn K (He.ga K "Twice") He.veBase "ValueError.__new__" = true ∧ PySem.W.keepIn K (.ref (He.ga K "Twice")) = true ∧ PySem.W.subIn K (.ref (He.ga K "Twice")) (.type "BaseException") = some true ∧ PySem.W.typeIn K (.ref (He.ga K "Twice")) = some (.type "type")
  em_Twice : PySem.W.exmOne K (.ref (He.ga K "Twice")) (.ref (He.ga K "MidError")) = some true
  es_Twice : PySem.W.exmOne K (.ref (He.ga K "Twice")) (.ref (He.ga K "Twice")) = some true
  xc_NoWidth : PySem.W.excIn K (He.ga K "NoWidth") He.veBase "ValueError.__new__" = true ∧ PySem.W.keepIn K (.ref (He.ga K "NoWidth")) = true ∧ PySem.W.subIn K (.ref (He.ga K "NoWidth")) (.type "BaseException") = some true ∧ PySem.W.typeIn K (.ref (He.ga K "NoWidth")) = some (.type "type")
  em_NoWidth : PySem.W.exmOne K (.ref (He.ga K "NoWidth")) (.ref (He.ga K "MidError")) = some true
  es_NoWidth : PySem.W.exmOne K (.ref (He.ga K "NoWidth")) (.ref (He.ga K "NoWidth")) = some true
  cl_Pile : Cls K (He.ga K "Pile")
  na_Pile_things : NoAttr K (He.ga K "Pile") "things"
  na_Pile_where : NoAttr K (He.ga K "Pile") "where"
  na_Pile_heavy : NoAttr K (He.ga K "Pile") "heavy"
  mk_Pile : Mk K (He.ga K "Pile") (He.ma K (He.ga K "Pile") "__init__")
  m_Pile_ahead : Meth K (He.ga K "Pile") "ahead" (He.ma K (He.ga K "Pile") "ahead")
  m_Pile_many : Meth K (He.ga K "Pile") "many" (He.ma K (He.ga K "Pile") "many")
  m_Pile_told : Meth K (He.ga K "Pile") "told" (He.ma K (He.ga K "Pile") "told")
  m_Pile_top : Meth K (He.ga K "Pile") "top" (He.ma K (He.ga K "Pile") "top")
  m_Pile_lay : Meth K (He.ga K "Pile") "lay" (He.ma K (He.ga K "Pile") "lay")
  m_Pile_rise : Meth K (He.ga K "Pile") "rise" (He.ma K (He.ga K "Pile") "rise")
  m_Pile_sink : Meth K (He.ga K "Pile") "sink" (He.ma K (He.ga K "Pile") "sink")
  m_Pile_put : Meth K (He.ga K "Pile") "put" (He.ma K (He.ga K "Pile") "put")
  m_Pile_take : Meth K (He.ga K "Pile") "take" (He.ma K (He.ga K "Pile") "take")
  cl_Turned : Cls K (He.ga K "Turned")
  na_Turned_things : NoAttr K (He.ga K "Turned") "things"
  na_Turned_where : NoAttr K (He.ga K "Turned") "where"
  na_Turned_heavy : NoAttr K (He.ga K "Turned") "heavy"
  mk_Turned : Mk K (He.ga K "Turned") (He.ma K (He.ga K "Turned") "__init__")
  m_Turned_ahead : Meth K (He.ga K "Turned") "ahead" (He.ma K (He.ga K "Turned") "ahead")
  mh_Turned_many : Meth K (He.ga K "Turned") "many" (He.ma K (He.ga K "Turned") "many")
  mh_Turned_told : Meth K (He.ga K "Turned") "told" (He.ma K (He.ga K "Turned") "told")
  mh_Turned_top : Meth K (He.ga K "Turned") "top" (He.ma K (He.ga K "Turned") "top")
  mh_Turned_lay : Meth K (He.ga K "Turned") "lay" (He.ma K (He.ga K "Turned") "lay")
  mh_Turned_rise : Meth K (He.ga K "Turned") "rise" (He.ma K (He.ga K "Turned") "rise")
  mh_Turned_sink : Meth K (He.ga K "Turned") "sink" (He.ma K (He.ga K "Turned") "sink")
  mh_Turned_put : Meth K (He.ga K "Turned") "put" (He.ma K (He.ga K "Turned") "put")
  mh_Turned_take : Meth K (He.ga K "Turned") "take" (He.ma K (He.ga K "Turned") "take")
  cl_Midrow : Cls K (He.ga K "Midrow")
  na_Midrow_part : NoAttr K (He.ga K "Midrow") "part"
  na_Midrow_whole : NoAttr K (He.ga K "Midrow") "whole"
  na_Midrow_low : NoAttr K (He.ga K "Midrow") "low"
  na_Midrow_high : NoAttr K (He.ga K "Midrow") "high"
  na_Midrow_numbers : NoAttr K (He.ga K "Midrow") "numbers"
  na_Midrow_came : NoAttr K (He.ga K "Midrow") "came"
  mk_Midrow : Mk K (He.ga K "Midrow") (He.ma K (He.ga K "Midrow") "__init__")
  m_Midrow_many : Meth K (He.ga K "Midrow") "many" (He.ma K (He.ga K "Midrow") "many")
  m_Midrow_settle : Meth K (He.ga K "Midrow") "settle" (He.ma K (He.ga K "Midrow") "settle")
  m_Midrow_put : Meth K (He.ga K "Midrow") "put" (He.ma K (He.ga K "Midrow") "put")
  m_Midrow_take : Meth K (He.ga K "Midrow") "take" (He.ma K (He.ga K "Midrow") "take")
  m_Midrow_number_of : Meth K (He.ga K "Midrow") "number_of" (He.ma K (He.ga K "Midrow") "number_of")
  m_Midrow_oldest : Meth K (He.ga K "Midrow") "oldest" (He.ma K (He.ga K "Midrow") "oldest")
  m_Midrow_share : Meth K (He.ga K "Midrow") "share" (He.ma K (He.ga K "Midrow") "share")
  m_Midrow_piles : Meth K (He.ga K "Midrow") "piles" (He.ma K (He.ga K "Midrow") "piles")
  m_Midrow_turn : Meth K (He.ga K "Midrow") "turn" (He.ma K (He.ga K "Midrow") "turn")
  xe_NoShare : ExcC K (He.ga K "NoShare")
  ki_NoShare : PySem.W.kitOne K (.ref (He.ga K "NoShare")) (.ref (He.ga K "NoShare")) = some true
  kv_NoShare : PySem.W.kitOne K (.ref (He.ga K "NoShare")) (.type "ValueError") = some true
  kn_NoShare : PySem.W.kitAny K (.ref (He.ga K "NoShare")) ((["Empty", "NoThing", "NoWidth", "Twice"] : List Str).map fun y => Value.ref (He.ga K y)) = some false
  xe_NoThing : ExcC K (He.ga K "NoThing")
  ki_NoThing : PySem.W.kitOne K (.ref (He.ga K "NoThing")) (.ref (He.ga K "NoThing")) = some true
  kv_NoThing : PySem.W.kitOne K (.ref (He.ga K "NoThing")) (.type "ValueError") = some true
  xe_Empty : ExcC K (He.ga K "Empty")
  ki_Empty : PySem.W.kitOne K (.ref (He.ga K "Empty")) (.ref (He.ga K "Empty")) = some true
  kv_Empty : PySem.W.kitOne K (.ref (He.ga K "Empty")) (.type "ValueError") = some true
  kn_Empty : PySem.W.kitAny K (.ref (He.ga K "Empty")) ((["NoShare", "NoThing", "NoWidth", "Twice"] : List Str).map fun y => Value.ref (He.ga K y)) = some false
  xe_Twice : ExcC K (He.ga K "Twice")
  ki_Twice : PySem.W.kitOne K (.ref (He.ga K "Twice")) (.ref (He.ga K "Twice")) = some true
  kv_Twice : PySem.W.kitOne K (.ref (He.ga K "Twice")) (.type "ValueError") = some true
  xe_NoWidth : ExcC K (He.ga K "NoWidth")
  ki_NoWidth : PySem.W.kitOne K (.ref (He.ga K "NoWidth")) (.ref (He.ga K "NoWidth")) = some true
  kv_NoWidth : PySem.W.kitOne K (.ref (He.ga K "NoWidth")) (.type "ValueError") = some true
  ic_Pile : InsC K (He.ga K "Pile")
  ic_Turned : InsC K (He.ga K "Turned")
  in_Turned_many : He.ma K (He.ga K "Turned") "many" = He.ma K (He.ga K "Pile") "many"
  in_Turned_told : He.ma K (He.ga K "Turned") "told" = He.ma K (He.ga K "Pile") "told"
  in_Turned_top : He.ma K (He.ga K "Turned") "top" = He.ma K (He.ga K "Pile") "top"
  in_Turned_lay : He.ma K (He.ga K "Turned") "lay" = He.ma K (He.ga K "Pile") "lay"
  in_Turned_rise : He.ma K (He.ga K "Turned") "rise" = He.ma K (He.ga K "Pile") "rise"
  in_Turned_sink : He.ma K (He.ga K "Turned") "sink" = He.ma K (He.ga K "Pile") "sink"
  in_Turned_put : He.ma K (He.ga K "Turned") "put" = He.ma K (He.ga K "Pile") "put"
  in_Turned_take : He.ma K (He.ga K "Turned") "take" = He.ma K (He.ga K "Pile") "take"
  in_Turned_init : He.ma K (He.ga K "Turned") "__init__" = He.ma K (He.ga K "Pile") "__init__"
  ki_Turned_Pile : PySem.W.kitOne K (.ref (He.ga K "Turned")) (.ref (He.ga K "Pile")) = some true
  ki_Pile_Pile : PySem.W.kitOne K (.ref (He.ga K "Pile")) (.ref (He.ga K "Pile")) = some true
  ic_Midrow : InsC K (He.ga K "Midrow")
theorem tx_of {K : PySem.W.Frag} {h : Heap} {mg : Str → Option Value} (X : K.In h) (G : h.Ns mainGlobals mg) (c : SaysM fa fn fb K) : Tx K mg :=
  { g_MidError := He.glo_ok X G (c.d.fact 0 (f := .glo "MidError") rfl),
    g_NoShare := He.glo_ok X G (c.d.fact 1 (f := .glo "NoShare") rfl),
    g_NoThing := He.glo_ok X G (c.d.fact 2 (f := .glo "NoThing") rfl),
    g_Empty := He.glo_ok X G (c.d.fact 3 (f := .glo "Empty") rfl),
    g_Twice := He.glo_ok X G (c.d.fact 4 (f := .glo "Twice") rfl),
    g_NoWidth := He.glo_ok X G (c.d.fact 5 (f := .glo "NoWidth") rfl),
    g_Pile := He.glo_ok X G (c.d.fact 6 (f := .glo "Pile") rfl),
    g_Turned := He.glo_ok X G (c.d.fact 7 (f := .glo "Turned") rfl),
    g_place := He.glo_ok X G (c.d.fact 8 (f := .glo "place") rfl),
    g_Midrow := He.glo_ok X G (c.d.fact 9 (f := .glo "Midrow") rfl),
    g__law_at := He.glo_ok X G (c.d.fact 10 (f := .glo "_law_at") rfl),
    g__law_is := He.glo_ok X G (c.d.fact 11 (f := .glo "_law_is") rfl),
    g__law_number := He.glo_ok X G (c.d.fact 12 (f := .glo "_law_number") rfl),
    g__law_numbers := He.glo_ok X G (c.d.fact 13 (f := .glo "_law_numbers") rfl),
    g__law_thing := He.glo_ok X G (c.d.fact 14 (f := .glo "_law_thing") rfl),
    g__law_form := He.glo_ok X G (c.d.fact 15 (f := .glo "_law_form") rfl),
    g__law_empty := He.glo_ok X G (c.d.fact 16 (f := .glo "_law_empty") rfl),
    g__law_no_share := He.glo_ok X G (c.d.fact 17 (f := .glo "_law_no_share") rfl),
    g__law_no_row := He.glo_ok X G (c.d.fact 18 (f := .glo "_law_no_row") rfl),
    g__law_made := He.glo_ok X G (c.d.fact 19 (f := .glo "_law_made") rfl),
    g__law_no_thing := He.glo_ok X G (c.d.fact 20 (f := .glo "_law_no_thing") rfl),
    g__law_put := He.glo_ok X G (c.d.fact 21 (f := .glo "_law_put") rfl),
    g__law_taken := He.glo_ok X G (c.d.fact 22 (f := .glo "_law_taken") rfl),
    g__law_taken_here := He.glo_ok X G (c.d.fact 23 (f := .glo "_law_taken_here") rfl),
    g__law_asked := He.glo_ok X G (c.d.fact 24 (f := .glo "_law_asked") rfl),
    g__law_turned := He.glo_ok X G (c.d.fact 25 (f := .glo "_law_turned") rfl),
    g__law_deed := He.glo_ok X G (c.d.fact 26 (f := .glo "_law_deed") rfl),
    g__law_at_place := He.glo_ok X G (c.d.fact 27 (f := .glo "_law_at_place") rfl),
    g__law_look := He.glo_ok X G (c.d.fact 28 (f := .glo "_law_look") rfl),
    g_law := He.glo_ok X G (c.d.fact 29 (f := .glo "law") rfl),
    z_len := He.free_ok X G (c.d.fact 30 (f := .free "len") rfl),
    z_list := He.free_ok X G (c.d.fact 31 (f := .free "list") rfl),
    z_divmod := He.free_ok X G (c.d.fact 32 (f := .free "divmod") rfl),
    z_max := He.free_ok X G (c.d.fact 33 (f := .free "max") rfl),
    z_isinstance := He.free_ok X G (c.d.fact 34 (f := .free "isinstance") rfl),
    z_int := He.free_ok X G (c.d.fact 35 (f := .free "int") rfl),
    z_bool := He.free_ok X G (c.d.fact 36 (f := .free "bool") rfl),
    z_range := He.free_ok X G (c.d.fact 37 (f := .free "range") rfl),
    z_tuple := He.free_ok X G (c.d.fact 38 (f := .free "tuple") rfl),
    z_ValueError := He.free_ok X G (c.d.fact 39 (f := .free "ValueError") rfl),
    z_min := He.free_ok X G (c.d.fact 40 (f := .free "min") rfl),
    z_sorted := He.free_ok X G (c.d.fact 41 (f := .free "sorted") rfl),
    z_enumerate := He.free_ok X G (c.d.fact 42 (f := .free "enumerate") rfl),
    xc_MidError := He.exc_ok (c.d.fact 43 (f := .exc "MidError") rfl),
    xc_NoShare := He.exc_ok (c.d.fact 44 (f := .exc "NoShare") rfl),
    em_NoShare := He.exm_ok (c.d.fact 45 (f := .exm "NoShare" "MidError" true) rfl),
    es_NoShare := He.exm_ok (c.d.fact 46 (f := .exm "NoShare" "NoShare" true) rfl),
    xc_NoThing := He.exc_ok (c.d.fact 47 (f := .exc "NoThing") rfl),
    em_NoThing := He.exm_ok (c.d.fact 48 (f := .exm "NoThing" "MidError" true) rfl),
    es_NoThing := He.exm_ok (c.d.fact 49 (f := .exm "NoThing" "NoThing" true) rfl),
    xc_Empty := He.exc_ok (c.d.fact 50 (f := .exc "Empty") rfl),
    em_Empty := He.exm_ok (c.d.fact 51 (f := .exm "Empty" "MidError" true) rfl),
    es_Empty := He.exm_ok (c.d.fact 52 (f := .exm "Empty" "Empty" true) rfl),
    xc_Twice := He.exc_ok (c.d.fact 53 (f := .exc "Twice") rfl),
    em_Twice := He.exm_ok (c.d.fact 54 (f := .exm "Twice" "MidError" true) rfl),
    es_Twice := He.exm_ok (c.d.fact 55 (f := .exm "Twice" "Twice" true) rfl),
    xc_NoWidth := He.exc_ok (c.d.fact 56 (f := .exc "NoWidth") rfl),
    em_NoWidth := He.exm_ok (c.d.fact 57 (f := .exm "NoWidth" "MidError" true) rfl),
    es_NoWidth := He.exm_ok (c.d.fact 58 (f := .exm "NoWidth" "NoWidth" true) rfl),
    cl_Pile := He.cls_ok (c.d.fact 59 (f := .cls "Pile") rfl),
    na_Pile_things := He.noat_ok (c.d.fact 60 (f := .noat "Pile" "things") rfl),
    na_Pile_where := He.noat_ok (c.d.fact 61 (f := .noat "Pile" "where") rfl),
    na_Pile_heavy := He.noat_ok (c.d.fact 62 (f := .noat "Pile" "heavy") rfl),
    mk_Pile := He.mkr_ok (c.d.fact 63 (f := .mkr "Pile") rfl),
    m_Pile_ahead := He.meth_ok (c.d.fact 64 (f := .meth "Pile" "ahead") rfl),
    m_Pile_many := He.meth_ok (c.d.fact 65 (f := .meth "Pile" "many") rfl),
    m_Pile_told := He.meth_ok (c.d.fact 66 (f := .meth "Pile" "told") rfl),
    m_Pile_top := He.meth_ok (c.d.fact 67 (f := .meth "Pile" "top") rfl),
    m_Pile_lay := He.meth_ok (c.d.fact 68 (f := .meth "Pile" "lay") rfl),
    m_Pile_rise := He.meth_ok (c.d.fact 69 (f := .meth "Pile" "rise") rfl),
    m_Pile_sink := He.meth_ok (c.d.fact 70 (f := .meth "Pile" "sink") rfl),
    m_Pile_put := He.meth_ok (c.d.fact 71 (f := .meth "Pile" "put") rfl),
    m_Pile_take := He.meth_ok (c.d.fact 72 (f := .meth "Pile" "take") rfl),
    cl_Turned := He.cls_ok (c.d.fact 73 (f := .cls "Turned") rfl),
    na_Turned_things := He.noat_ok (c.d.fact 74 (f := .noat "Turned" "things") rfl),
    na_Turned_where := He.noat_ok (c.d.fact 75 (f := .noat "Turned" "where") rfl),
    na_Turned_heavy := He.noat_ok (c.d.fact 76 (f := .noat "Turned" "heavy") rfl),
    mk_Turned := He.mkr_ok (c.d.fact 77 (f := .mkr "Turned") rfl),
    m_Turned_ahead := He.meth_ok (c.d.fact 78 (f := .meth "Turned" "ahead") rfl),
    mh_Turned_many := He.meth_ok (c.d.fact 79 (f := .meth "Turned" "many") rfl),
    mh_Turned_told := He.meth_ok (c.d.fact 80 (f := .meth "Turned" "told") rfl),
    mh_Turned_top := He.meth_ok (c.d.fact 81 (f := .meth "Turned" "top") rfl),
    mh_Turned_lay := He.meth_ok (c.d.fact 82 (f := .meth "Turned" "lay") rfl),
    mh_Turned_rise := He.meth_ok (c.d.fact 83 (f := .meth "Turned" "rise") rfl),
    mh_Turned_sink := He.meth_ok (c.d.fact 84 (f := .meth "Turned" "sink") rfl),
    mh_Turned_put := He.meth_ok (c.d.fact 85 (f := .meth "Turned" "put") rfl),
    mh_Turned_take := He.meth_ok (c.d.fact 86 (f := .meth "Turned" "take") rfl),
    cl_Midrow := He.cls_ok (c.d.fact 87 (f := .cls "Midrow") rfl),
    na_Midrow_part := He.noat_ok (c.d.fact 88 (f := .noat "Midrow" "part") rfl),
    na_Midrow_whole := He.noat_ok (c.d.fact 89 (f := .noat "Midrow" "whole") rfl),
    na_Midrow_low := He.noat_ok (c.d.fact 90 (f := .noat "Midrow" "low") rfl),
    na_Midrow_high := He.noat_ok (c.d.fact 91 (f := .noat "Midrow" "high") rfl),
    na_Midrow_numbers := He.noat_ok (c.d.fact 92 (f := .noat "Midrow" "numbers") rfl),
    na_Midrow_came := He.noat_ok (c.d.fact 93 (f := .noat "Midrow" "came") rfl),
    mk_Midrow := He.mkr_ok (c.d.fact 94 (f := .mkr "Midrow") rfl),
    m_Midrow_many := He.meth_ok (c.d.fact 95 (f := .meth "Midrow" "many") rfl),
    m_Midrow_settle := He.meth_ok (c.d.fact 96 (f := .meth "Midrow" "settle") rfl),
    m_Midrow_put := He.meth_ok (c.d.fact 97 (f := .meth "Midrow" "put") rfl),
    m_Midrow_take := He.meth_ok (c.d.fact 98 (f := .meth "Midrow" "take") rfl),
    m_Midrow_number_of := He.meth_ok (c.d.fact 99 (f := .meth "Midrow" "number_of") rfl),
    m_Midrow_oldest := He.meth_ok (c.d.fact 100 (f := .meth "Midrow" "oldest") rfl),
    m_Midrow_share := He.meth_ok (c.d.fact 101 (f := .meth "Midrow" "share") rfl),
    m_Midrow_piles := He.meth_ok (c.d.fact 102 (f := .meth "Midrow" "piles") rfl),
    m_Midrow_turn := He.meth_ok (c.d.fact 103 (f := .meth "Midrow" "turn") rfl),
    xe_NoShare := excB_ok (c.more 0 (f := .exc "NoShare") rfl),
    ki_NoShare := of_decide_eq_true (c.more 1 (f := .kit "NoShare" "NoShare" true) rfl),
    kv_NoShare := of_decide_eq_true (c.more 2 (f := .kitT "NoShare" "ValueError" true) rfl),
    kn_NoShare := of_decide_eq_true (c.more 3 (f := .kitL "NoShare" ["Empty", "NoThing", "NoWidth", "Twice"] false) rfl),
    xe_NoThing := excB_ok (c.more 4 (f := .exc "NoThing") rfl),
    ki_NoThing := of_decide_eq_true (c.more 5 (f := .kit "NoThing" "NoThing" true) rfl),
    kv_NoThing := of_decide_eq_true (c.more 6 (f := .kitT "NoThing" "ValueError" true) rfl),
    xe_Empty := excB_ok (c.more 7 (f := .exc "Empty") rfl),
    ki_Empty := of_decide_eq_true (c.more 8 (f := .kit "Empty" "Empty" true) rfl),
    kv_Empty := of_decide_eq_true (c.more 9 (f := .kitT "Empty" "ValueError" true) rfl),
    kn_Empty := of_decide_eq_true (c.more 10 (f := .kitL "Empty" ["NoShare", "NoThing", "NoWidth", "Twice"] false) rfl),
    xe_Twice := excB_ok (c.more 11 (f := .exc "Twice") rfl),
    ki_Twice := of_decide_eq_true (c.more 12 (f := .kit "Twice" "Twice" true) rfl),
    kv_Twice := of_decide_eq_true (c.more 13 (f := .kitT "Twice" "ValueError" true) rfl),
    xe_NoWidth := excB_ok (c.more 14 (f := .exc "NoWidth") rfl),
    ki_NoWidth := of_decide_eq_true (c.more 15 (f := .kit "NoWidth" "NoWidth" true) rfl),
    kv_NoWidth := of_decide_eq_true (c.more 16 (f := .kitT "NoWidth" "ValueError" true) rfl),
    ic_Pile := clsB_ok (c.more 17 (f := .ins "Pile") rfl),
    ic_Turned := clsB_ok (c.more 18 (f := .ins "Turned") rfl),
    in_Turned_many := of_decide_eq_true (c.more 19 (f := .inh "Turned" "Pile" "many") rfl),
    in_Turned_told := of_decide_eq_true (c.more 20 (f := .inh "Turned" "Pile" "told") rfl),
    in_Turned_top := of_decide_eq_true (c.more 21 (f := .inh "Turned" "Pile" "top") rfl),
    in_Turned_lay := of_decide_eq_true (c.more 22 (f := .inh "Turned" "Pile" "lay") rfl),
    in_Turned_rise := of_decide_eq_true (c.more 23 (f := .inh "Turned" "Pile" "rise") rfl),
    in_Turned_sink := of_decide_eq_true (c.more 24 (f := .inh "Turned" "Pile" "sink") rfl),
    in_Turned_put := of_decide_eq_true (c.more 25 (f := .inh "Turned" "Pile" "put") rfl),
    in_Turned_take := of_decide_eq_true (c.more 26 (f := .inh "Turned" "Pile" "take") rfl),
    in_Turned_init := of_decide_eq_true (c.more 27 (f := .inh "Turned" "Pile" "__init__") rfl),
    ki_Turned_Pile := of_decide_eq_true (c.more 28 (f := .kit "Turned" "Pile" true) rfl),
    ki_Pile_Pile := of_decide_eq_true (c.more 29 (f := .kit "Pile" "Pile" true) rfl),
    ic_Midrow := clsB_ok (c.more 30 (f := .ins "Midrow") rfl) }
theorem bind_of : True := trivial
end Mp


namespace Mp
open PySem PySem.Spec PyProof.Rows L2
abbrev Rw : PySem.W.OpenRow := PySem.W.OpenLaw.row PySem.Challenge.rw_midpile_k06_whole_share_told
abbrev hk : PySem.W.Hook := hookM 5 fa fn fb
def obH (s : PySem.W.SharedT) : AlM := obsMG 5 fa fn fb (HandSHeadRun.getT s)
theorem obH_eq (s : PySem.W.SharedT) : obH s = hk.obs s.abs := obsMG_eq (HandSHeadRun.getT_eq s)
def looseP0 : List Str := ["_wall", "MidError", "NoShare", "NoThing", "Empty", "Twice", "NoWidth", "Pile", "Turned", "place", "Midrow", "_law_at", "_law_is", "_law_number", "_law_numbers", "_law_thing", "_law_form", "_law_empty", "_law_no_share", "_law_no_row", "_law_made", "_law_no_thing", "_law_put", "_law_taken", "_law_taken_here", "_law_asked", "_law_turned", "_law_deed", "_law_at_place", "_law_look"]
def looseN : List Str := looseP0
theorem runH (w : World) : HandSHeadRun.RunEq Rw (PySem.W.view Rw.prog [35]) hk obH 4000 looseN w := by
  intro os
  kernel_rfl
end Mp


namespace Mp
open PySem PySem.Spec PyProof.Rows L2
local macro_rules | `(tactic| walk_at "rd") => `(tactic| try simp only [tSeq, tAsg, gName, tVar, tC, tOp, rI0, rI, tTest, tB, tIfS, tNext, tBreak, tCont, tRet, tRetN, tDrop, tCons, tNil, tCallS, tCB, tAnd, tOr, tNot, tAndV, tOrV, tNotV, tUn, rU, tIf, tChain, gCons, gNil, gSub, tFld_r, sFld_r, sFldAug_r, tDGet_r, tDIn_r, tDNotIn_r, sDPut_r, tDPop1_r, tMethF_r, tMakeF, tBits, tSl, tPart, tDNewK, cxOf_K, tBM, tBM0, tTup, tLst, List.length_cons, List.length_nil, Nat.reduceAdd, Nat.zero_add, PySem.sizeLine_eq, Nat.reduceLeDiff,
  List.getElem?_cons_zero, List.getElem?_cons_succ, Option.some.injEq, exists_eq_left', List.set_cons_zero, List.set_cons_succ, exists_eq_left, V.int.injEq, V.bl.injEq, V.ref.injEq, List.cons.injEq, and_true, true_and, and_assoc, exists_and_left, decide_eq_true_eq,
  rEq_int, rNe_int, cdiv_iff, cpow10, Int.reduceLT, Int.reduceLE, Int.reduceToNat, Int.reducePow, Int.reduceNeg, Int.reduceSub, Int.reduceAdd, Int.reduceMul, Nat.reducePow, Nat.reduceLT, Bool.not_eq_true', Bool.false_eq_true, if_true, if_false, not_true_eq_false, not_false_eq_true, ite_not, Bool.not_true, Bool.not_false, reduceCtorEq, ipI, tAug, isi_int_int, isi_int_bool, isi_bool_bool, Bool.true_eq_false, reduceIte])
local macro_rules | `(tactic| walk_at "fo") => `(tactic| try simp only [tFor_enum, tFor_zip, tFor_list, tFor_r1])

/-! ### what a pile looks like between two calls -/
structure PA where
  p : Addr
  dx : Addr
  l : Addr
  d : Addr
def pC (K : PySem.W.Frag) (t : Bool) : Addr := if t then He.ga K "Turned" else He.ga K "Pile"
def pAh (K : PySem.W.Frag) (t : Bool) : Addr := if t then He.ma K (He.ga K "Turned") "ahead" else He.ma K (He.ga K "Pile") "ahead"
def pf (l d : Addr) (hv : Int) : List (Str × V) := [("things", .ref l), ("where", .ref d), ("heavy", .int hv)]
theorem ne_tw : ("where" == ("things" : Str)) = false := by decide +kernel
theorem ne_ht : ("heavy" == ("things" : Str)) = false := by decide +kernel
theorem ne_hw : ("heavy" == ("where" : Str)) = false := by decide +kernel
theorem lk_eq {k : Str} {v : V} {r : List (Str × V)} : List.lookup k ((k, v) :: r) = some v := by simp [List.lookup]
theorem lk_ne {k g : Str} {v : V} {r : List (Str × V)} (h : (k == g) = false) : List.lookup k ((g, v) :: r) = List.lookup k r := by simp [List.lookup, h]
theorem pf_things (l d : Addr) (hv : Int) : (pf l d hv).lookup ("things" : Str) = some (.ref l) := lk_eq
theorem pf_where (l d : Addr) (hv : Int) : (pf l d hv).lookup ("where" : Str) = some (.ref d) := (lk_ne ne_tw).trans lk_eq
theorem pf_heavy (l d : Addr) (hv : Int) : (pf l d hv).lookup ("heavy" : Str) = some (.int hv) := (lk_ne ne_ht).trans ((lk_ne ne_hw).trans lk_eq)
theorem pf_no (l d : Addr) (hv : Int) {m : Str} (h1 : (m == ("things" : Str)) = false) (h2 : (m == ("where" : Str)) = false) (h3 : (m == ("heavy" : Str)) = false) : (pf l d hv).lookup m = none := (lk_ne h1).trans ((lk_ne h2).trans ((lk_ne h3).trans rfl))
theorem putF_eq {f : Str} {v x : V} {r : List (Str × V)} : putF f v ((f, x) :: r) = (f, v) :: r := if_pos rfl
theorem putF_ne {f g : Str} {v x : V} {r : List (Str × V)} (h : (f == g) = false) : putF f v ((g, x) :: r) = (g, x) :: putF f v r := if_neg fun e => by
  rw [e] at h
  simp at h
theorem pf_put (l d : Addr) (hv z : Int) : putF "heavy" (.int z) (pf l d hv) = pf l d z := (putF_ne ne_ht).trans (congrArg _ ((putF_ne ne_hw).trans (congrArg _ putF_eq)))
theorem pf_new (l d : Addr) : putF "heavy" (.int 0) (putF "where" (.ref d) (putF "things" (.ref l) [])) = pf l d 0 := by
  have e1 : putF "things" (.ref l) [] = [(("things" : Str), V.ref l)] := rfl
  have e2 : putF "where" (.ref d) [(("things" : Str), V.ref l)] = [(("things" : Str), V.ref l), ("where", .ref d)] := (putF_ne ne_tw).trans rfl
  rw [e1, e2]
  exact (putF_ne ne_ht).trans (congrArg _ ((putF_ne ne_hw).trans rfl))
/-- the heap bears the mirror's state -/
structure PRaw (K : PySem.W.Frag) (t : Bool) (a : PA) (H : Hp) (s : Sx) (hv : Int) : Prop where
  ob : H a.p = some (.ins (pC K t) a.dx (pf a.l a.d hv))
  li : H a.l = some (.lst (s.1.map fun e => V.ref e.1))
  di : H a.d = some (.dK s.2)
  tu : ∀ e ∈ s.1, H e.1 = some (tV e.2)
theorem PRaw.npl {K : PySem.W.Frag} {t : Bool} {a : PA} {H : Hp} {s : Sx} {hv : Int} (R : PRaw K t a H s hv) : a.p ≠ a.l := ne_of R.ob R.li (fun z => by cases z)
theorem PRaw.npd {K : PySem.W.Frag} {t : Bool} {a : PA} {H : Hp} {s : Sx} {hv : Int} (R : PRaw K t a H s hv) : a.p ≠ a.d := ne_of R.ob R.di (fun z => by cases z)
theorem PRaw.nld {K : PySem.W.Frag} {t : Bool} {a : PA} {H : Hp} {s : Sx} {hv : Int} (R : PRaw K t a H s hv) : a.l ≠ a.d := ne_of R.li R.di (fun z => by cases z)
/-- what a deed of the pile at a leaves as it was -/
def FrP (a : PA) (H H' : Hp) : Prop := ∀ b o, H b = some o → b ≠ a.p → b ≠ a.l → b ≠ a.d → H' b = some o
theorem FrP.refl (a : PA) (H : Hp) : FrP a H H := fun _ _ e _ _ _ => e
theorem FrP.trans {a : PA} {H H1 H2 : Hp} (x : FrP a H H1) (y : FrP a H1 H2) : FrP a H H2 := fun b o e h1 h2 h3 => y b o (x b o e h1 h2 h3) h1 h2 h3
/-- a tuple stays -/
theorem PRaw.tup {K : PySem.W.Frag} {t : Bool} {a : PA} {H H' : Hp} {s : Sx} {hv : Int} (R : PRaw K t a H s hv) (f : FrP a H H') {b : Addr} {xs : List V} (h : H b = some (.tup xs)) : H' b = some (.tup xs) :=
  f b _ h (ne_of h R.ob fun z => by cases z) (ne_of h R.li fun z => by cases z) (ne_of h R.di fun z => by cases z)
theorem PRaw.same {K : PySem.W.Frag} {t : Bool} {a : PA} {H H' : Hp} {s : Sx} {hv : Int} (R : PRaw K t a H s hv) (f : Same H H') : PRaw K t a H' s hv := ⟨f _ _ R.ob, f _ _ R.li, f _ _ R.di, fun e he => f _ _ (R.tu e he)⟩
/-- the class's facts, of both kinds of pile -/
structure PT (K : PySem.W.Frag) (t : Bool) : Prop where
  cl : Cls K (pC K t)
  nt : NoAttr K (pC K t) "things"
  nw : NoAttr K (pC K t) "where"
  nh : NoAttr K (pC K t) "heavy"
  m_ahead : Meth K (pC K t) "ahead" (pAh K t)
  m_many : Meth K (pC K t) "many" (He.ma K (He.ga K "Pile") "many")
  m_told : Meth K (pC K t) "told" (He.ma K (He.ga K "Pile") "told")
  m_top : Meth K (pC K t) "top" (He.ma K (He.ga K "Pile") "top")
  m_lay : Meth K (pC K t) "lay" (He.ma K (He.ga K "Pile") "lay")
  m_rise : Meth K (pC K t) "rise" (He.ma K (He.ga K "Pile") "rise")
  m_sink : Meth K (pC K t) "sink" (He.ma K (He.ga K "Pile") "sink")
  m_put : Meth K (pC K t) "put" (He.ma K (He.ga K "Pile") "put")
  m_take : Meth K (pC K t) "take" (He.ma K (He.ga K "Pile") "take")

theorem inh_at {K : PySem.W.Frag} {m : Str} (r : Meth K (He.ga K "Turned") m (He.ma K (He.ga K "Turned") m)) (e : He.ma K (He.ga K "Turned") m = He.ma K (He.ga K "Pile") m) : Meth K (He.ga K "Turned") m (He.ma K (He.ga K "Pile") m) := by
  rw [e] at r
  exact r
theorem pt_of {K : PySem.W.Frag} {mg : Str → Option Value} (T : Tx K mg) (t : Bool) : PT K t := by
  cases t
  · exact { cl := T.cl_Pile, nt := T.na_Pile_things, nw := T.na_Pile_where, nh := T.na_Pile_heavy, m_ahead := T.m_Pile_ahead, m_many := T.m_Pile_many, m_told := T.m_Pile_told, m_top := T.m_Pile_top, m_lay := T.m_Pile_lay, m_rise := T.m_Pile_rise, m_sink := T.m_Pile_sink, m_put := T.m_Pile_put, m_take := T.m_Pile_take }
  · exact { cl := T.cl_Turned, nt := T.na_Turned_things, nw := T.na_Turned_where, nh := T.na_Turned_heavy, m_ahead := T.m_Turned_ahead, m_many := inh_at T.mh_Turned_many T.in_Turned_many, m_told := inh_at T.mh_Turned_told T.in_Turned_told, m_top := inh_at T.mh_Turned_top T.in_Turned_top, m_lay := inh_at T.mh_Turned_lay T.in_Turned_lay, m_rise := inh_at T.mh_Turned_rise T.in_Turned_rise, m_sink := inh_at T.mh_Turned_sink T.in_Turned_sink, m_put := inh_at T.mh_Turned_put T.in_Turned_put, m_take := inh_at T.mh_Turned_take T.in_Turned_take }

/-! ### the promises -/
def spPInit (K : PySem.W.Frag) (t : Bool) : Sp := fun vs H Q _ => ∃ (p dx : Addr), vs = [.ref p] ∧ H p = some (.ins (pC K t) dx []) ∧
  ∀ (l d : Addr) (H' : Hp), H l = none → H d = none → PRaw K t ⟨p, dx, l, d⟩ H' ([], []) 0 → (∀ b o, H b = some o → b ≠ p → H' b = some o) → Q .non H'
def spAhead (t : Bool) : Sp := fun vs H Q _ => ∃ (z : V) (x y : En), vs = [z, .ref x.1, .ref y.1] ∧ H x.1 = some (tV x.2) ∧ H y.1 = some (tV y.2) ∧ Q (.bl (ah t x.2 y.2)) H
def spMany (K : PySem.W.Frag) (t : Bool) : Sp := fun vs H Q _ => ∃ (a : PA) (s : Sx) (hv : Int), vs = [.ref a.p] ∧ PRaw K t a H s hv ∧ Q (.int (s.1.length : Int)) H
def spTold (K : PySem.W.Frag) (t : Bool) : Sp := fun vs H Q _ => ∃ (a : PA) (s : Sx) (hv : Int), vs = [.ref a.p] ∧ PRaw K t a H s hv ∧ ∀ q, H q = none → Q (.ref q) (upd H q (.lst (s.1.map fun e => V.ref e.1)))
def spWeight (K : PySem.W.Frag) (t : Bool) : Sp := fun vs H Q _ => ∃ (a : PA) (s : Sx) (hv : Int), vs = [.ref a.p] ∧ PRaw K t a H s hv ∧ Q (.int hv) H
def spTop (K : PySem.W.Frag) (t : Bool) : Sp := fun vs H Q E => ∃ (a : PA) (s : Sx) (hv : Int), vs = [.ref a.p] ∧ PRaw K t a H s hv ∧ (s.1 = [] → ∀ H', Same H H' → E (.ref (He.ga K "Empty")) none H') ∧
  ∀ e, s.1[0]? = some e → ∀ H', Same H H' → Q (.ref e.1) H'
def spLay (K : PySem.W.Frag) (t : Bool) : Sp := fun vs H Q _ => ∃ (a : PA) (s : Sx) (hv : Int) (k : Nat) (x : En), vs = [.ref a.p, .int (k : Int), .ref x.1] ∧ PRaw K t a H s hv ∧ k < s.1.length ∧ s.2.length < 1000000 ∧ H x.1 = some (tV x.2) ∧
  ∀ H', PRaw K t a H' (layM s k x) hv → FrP a H H' → Q .non H'
def spRise (K : PySem.W.Frag) (t : Bool) : Sp := fun vs H Q _ => ∃ (a : PA) (s : Sx) (hv : Int) (k : Nat), vs = [.ref a.p, .int (k : Int)] ∧ PRaw K t a H s hv ∧ k < s.1.length ∧ s.2.length + k < 1000000 ∧
  ∀ H', PRaw K t a H' (riseM t (gE s.1 k) s k).1 hv → FrP a H H' → Q .non H'
def spSink (K : PySem.W.Frag) (t : Bool) : Sp := fun vs H Q _ => ∃ (a : PA) (s : Sx) (hv : Int) (k : Nat), vs = [.ref a.p, .int (k : Int)] ∧ PRaw K t a H s hv ∧ k < s.1.length ∧ s.2.length + s.1.length < 1000000 ∧
  ∀ H', PRaw K t a H' (sinkM t (gE s.1 k) s k) hv → FrP a H H' → Q .non H'
def spPut (K : PySem.W.Frag) (t : Bool) : Sp := fun vs H Q E => ∃ (a : PA) (s : Sx) (hv : Int) (x : En), vs = [.ref a.p, .ref x.1] ∧ PRaw K t a H s hv ∧ H x.1 = some (tV x.2) ∧ s.1.length + s.2.length < 900000 ∧
  (∀ v, valV s.2 (Sum.inl x.2.2) = some v → E (.ref (He.ga K "Twice")) none H) ∧
  (valV s.2 (Sum.inl x.2.2) = none → ∀ H', PRaw K t a H' (putM t s x) (hv + x.2.1) → FrP a H H' → Q .non H')
def spTake (K : PySem.W.Frag) (t : Bool) : Sp := fun vs H Q E => ∃ (a : PA) (s : Sx) (hv c : Int), vs = [.ref a.p, .int c] ∧ PRaw K t a H s hv ∧ 2 * s.1.length + s.2.length < 900000 ∧
  (valV s.2 (Sum.inl c) = none → E (.ref (He.ga K "NoThing")) none H) ∧
  (∀ v, valV s.2 (Sum.inl c) = some v → ∃ k : Nat, v = .int (k : Int) ∧ k < s.1.length ∧ ∃ m : Nat, m = k ∧ (gE s.1 k).2.2 = c ∧ ∀ H', PRaw K t a H' (takeM t s k) (hv - (gE s.1 k).2.1) → FrP a H H' → Q (.ref (gE s.1 k).1) H')
section
variable {P : Program} {w : World} {K : PySem.W.Frag} {mg : Str → Option Value} {base : Heap}
theorem ok_Pile___init__ (T : Tx K mg) (t : Bool) {fd : FuncData} (F : FnP K "__init__" "Pile.__init__" s_Pile___init__ (He.ma K (He.ga K "Pile") "__init__") fd) : Fn P w K mg base 1 (He.ma K (He.ga K "Pile") "__init__") P_Pile___init__ (spPInit K t) := by
  have Pt := pt_of T t
  refine fn_ok F sc_Pile___init__ (fun vs H Q E h => ?_) (fun _ _ _ _ _ _ us hl => match us, hl with | [_], _ => rfl) (fun cdv A outer s0 H vs Q E hr h => ?_)
  · obtain ⟨p, dx, rfl, _⟩ := h
    rfl
  · obtain ⟨p, dx, rfl, hp, hQ⟩ := h
    refine ⟨_, (pss_cons (ps_fld (pv 0) (pe_lst pa_nil) rfl)
    (pss_cons (ps_fld (pv 0) pe_dnewK rfl)
    (pss_one (ps_fld (pv 0) pe_int rfl)))), ?_⟩
    rw [show start N_Pile___init__ [V.ref p] = [some (V.ref p)] from rfl]
    walk_at "rd"
    intro l hl
    have npl : p ≠ l := ne_of_none hp hl
    refine setR.mk (by rw [upd_ne npl]; exact hp) Pt.cl Pt.nt (by show 0 < 1000; decide) ?_
    walk_at "rd"
    intro d hd
    have npd : p ≠ d := fun e => by rw [← e, upd_same] at hd; cases hd
    have nld : l ≠ d := fun e => by rw [← e, upd_ne npl.symm, upd_same] at hd; cases hd
    have hd0 : H d = none := by rw [upd_ne npd.symm, upd_ne nld.symm] at hd; exact hd
    refine setR.mk (by rw [upd_ne npd]; exact upd_same) Pt.cl Pt.nw (by show 1 < 1000; decide) ?_
    walk_at "rd"
    refine setR.mk upd_same Pt.cl Pt.nh (by show 2 < 1000; decide) ?_
    walk_at "rd"
    refine hQ l d _ hl hd0 ⟨Eq.trans upd_same (congrArg (fun z => some (HO.ins (pC K t) dx z)) (pf_new l d)), ?_, ?_, fun e he => by cases he⟩ fun b o e hb => ?_
    · show _ = _
      rw [upd_ne npl.symm, upd_ne npl.symm, upd_ne nld, upd_ne npl.symm, upd_same]
      rfl
    · show _ = _
      rw [upd_ne npd.symm, upd_ne npd.symm, upd_same]
    · rw [upd_ne hb, upd_ne hb, upd_ne (ne_of_none e hd0), upd_ne hb, upd_ne (ne_of_none e hl)]
      exact e

theorem lex_ah (x y : T) : HT.lexLt [x.1, x.2] [y.1, y.2] = lt2 x y := by
  unfold lt2
  rw [HT.lexLt_cons, HT.lexLt_cons, HT.lexLt_nil_nil]
  by_cases e : x.1 = y.1
  · rw [if_pos e, if_pos e]
    by_cases e2 : x.2 = y.2
    · rw [if_pos e2, e2]
      simp
    · rw [if_neg e2]
  · rw [if_neg e, if_neg e]
theorem ok_Pile_ahead (T : Tx K mg) {fd : FuncData} (F : FnP K "ahead" "Pile.ahead" s_Pile_ahead (He.ma K (He.ga K "Pile") "ahead") fd) : Fn P w K mg base 1 (He.ma K (He.ga K "Pile") "ahead") P_Pile_ahead (spAhead false) := by
  refine fn_ok F sc_Pile_ahead (fun vs H Q E h => ?_) (fun _ _ _ _ _ _ us hl => match us, hl with | [_, _, _], _ => rfl) (fun cdv A outer s0 H vs Q E hr h => ?_)
  · obtain ⟨z, x, y, rfl, _⟩ := h
    rfl
  · obtain ⟨z, x, y, rfl, hx, hy, hQ⟩ := h
    have hu0 := hr.units0
    refine ⟨_, (pss_one (ps_ret (pe_cmpR (op_ltT hu0) (pv 1) (pv 2) (nomark _)))), ?_⟩
    rw [show start N_Pile_ahead [z, V.ref x.1, V.ref y.1] = [some (z), some (V.ref x.1), some (V.ref y.1)] from rfl]
    walk_at "rd"
    refine ⟨_, _, [x.2.1, x.2.2], [y.2.1, y.2.2], rfl, rfl, SqT.of hx, SqT.of hy, ?_⟩
    rw [lex_ah]
    exact hQ
theorem ok_Turned_ahead (T : Tx K mg) {fd : FuncData} (F : FnP K "ahead" "Turned.ahead" s_Turned_ahead (He.ma K (He.ga K "Turned") "ahead") fd) : Fn P w K mg base 1 (He.ma K (He.ga K "Turned") "ahead") P_Turned_ahead (spAhead true) := by
  refine fn_ok F sc_Turned_ahead (fun vs H Q E h => ?_) (fun _ _ _ _ _ _ us hl => match us, hl with | [_, _, _], _ => rfl) (fun cdv A outer s0 H vs Q E hr h => ?_)
  · obtain ⟨z, x, y, rfl, _⟩ := h
    rfl
  · obtain ⟨z, x, y, rfl, hx, hy, hQ⟩ := h
    have hu0 := hr.units0
    refine ⟨_, (pss_one (ps_ret (pe_cmpR (op_ltT hu0) (pv 2) (pv 1) (nomark _)))), ?_⟩
    rw [show start N_Turned_ahead [z, V.ref x.1, V.ref y.1] = [some (z), some (V.ref x.1), some (V.ref y.1)] from rfl]
    walk_at "rd"
    refine ⟨_, _, [y.2.1, y.2.2], [x.2.1, x.2.2], rfl, rfl, SqT.of hy, SqT.of hx, ?_⟩
    rw [lex_ah]
    exact hQ
theorem ok_Pile_many (T : Tx K mg) (t : Bool) {fd : FuncData} (F : FnP K "many" "Pile.many" s_Pile_many (He.ma K (He.ga K "Pile") "many") fd) : Fn P w K mg base 1 (He.ma K (He.ga K "Pile") "many") P_Pile_many (spMany K t) := by
  have Pt := pt_of T t
  refine fn_ok F sc_Pile_many (fun vs H Q E h => ?_) (fun _ _ _ _ _ _ us hl => match us, hl with | [_], _ => rfl) (fun cdv A outer s0 H vs Q E hr h => ?_)
  · obtain ⟨a, s, hv, rfl, _⟩ := h
    rfl
  · obtain ⟨a, s, hv, rfl, R, hQ⟩ := h
    refine ⟨_, (pss_one (ps_ret (pe_callB call_len_seq rfl T.z_len PySem.boot_len (pa_cons (pe_fld (pv 0) rfl) pa_nil)))), ?_⟩
    rw [show start N_Pile_many [V.ref a.p] = [some (V.ref a.p)] from rfl]
    walk_at "rd"
    refine fldR.mk R.ob Pt.cl Pt.nt (pf_things _ _ _) ?_
    walk_at "rd"
    refine ⟨_, .inl (SqL.of R.li), ?_⟩
    rw [List.length_map]
    exact hQ

theorem ok_Pile_told (T : Tx K mg) (t : Bool) {fd : FuncData} (F : FnP K "told" "Pile.told" s_Pile_told (He.ma K (He.ga K "Pile") "told") fd) : Fn P w K mg base 1 (He.ma K (He.ga K "Pile") "told") P_Pile_told (spTold K t) := by
  have Pt := pt_of T t
  refine fn_ok F sc_Pile_told (fun vs H Q E h => ?_) (fun _ _ _ _ _ _ us hl => match us, hl with | [_], _ => rfl) (fun cdv A outer s0 H vs Q E hr h => ?_)
  · obtain ⟨a, s, hv, rfl, _⟩ := h
    rfl
  · obtain ⟨a, s, hv, rfl, R, hQ⟩ := h
    refine ⟨_, (pss_one (ps_ret (pe_callTy call_list_of rfl T.z_list (by decide +kernel) (pa_cons (pe_fld (pv 0) rfl) pa_nil)))), ?_⟩
    rw [show start N_Pile_told [V.ref a.p] = [some (V.ref a.p)] from rfl]
    walk_at "rd"
    refine fldR.mk R.ob Pt.cl Pt.nt (pf_things _ _ _) ?_
    walk_at "rd"
    exact ⟨_, .inl (SqL.of R.li), hQ⟩


theorem ok_Pile_top (T : Tx K mg) (t : Bool) {fd : FuncData} (F : FnP K "top" "Pile.top" s_Pile_top (He.ma K (He.ga K "Pile") "top") fd) : Fn P w K mg base 1 (He.ma K (He.ga K "Pile") "top") P_Pile_top (spTop K t) := by
  have Pt := pt_of T t
  refine fn_okX F sc_Pile_top (fun vs H Q E h => ?_) (fun _ _ _ _ _ _ us hl => match us, hl with | [_], _ => rfl) (fun cdv A outer s0 H vs Q E hr h => ?_)
  · obtain ⟨a, s, hv, rfl, _⟩ := h
    rfl
  · obtain ⟨a, s, hv, rfl, R, hE, hQ⟩ := h
    have hu64 := hr.units
    refine ⟨_, (pss_cons (ps_if (pt_cmpR (op_eqD hu64) (pe_fld (pv 0) rfl) (pe_lst pa_nil) (nomark _)) (pss_one (ps_raise rfl (takes_of rfl rfl rfl rfl) (pmk_own PySem.F.excBase_ValueError T.xc_Empty.1 T.g_Empty T.xc_Empty.2.1 (raises_own T.xc_Empty.2.2.1 T.xc_Empty.2.2.2) rfl))) pss_nil)
    (pss_one (ps_ret (pe_ix ix_list (pe_fld (pv 0) rfl) pe_int (fun _ _ => rfl))))), ?_⟩
    rw [show start N_Pile_top [V.ref a.p] = [some (V.ref a.p)] from rfl]
    walk_at "rd"
    refine fldR.mk R.ob Pt.cl Pt.nt (pf_things _ _ _) ?_
    intro q hq
    have s1 := same_new (o := .lst []) hq
    have R1 := R.same s1
    refine eqD_l (l2 := []) (dp_l (SqL.of R1.li) R1.tu) (dp_nil (SqL.of upd_same)) ?_
    refine ⟨_, rfl, ?_⟩
    by_cases c : s.1.map (·.2) = []
    · have c2 : s.1 = [] := List.map_eq_nil_iff.mp c
      rw [decide_eq_true c]
      exact iteT (hE c2 _ s1)
    · rw [decide_eq_false c]
      refine iteF ?_
      have c2 : 0 < s.1.length := by
        cases hs : s.1 with
        | nil => rw [hs] at c; exact absurd rfl c
        | cons _ _ => exact Nat.succ_pos _
      obtain ⟨e, he⟩ := get_of_lt c2
      refine fldR.mk R1.ob Pt.cl Pt.nt (pf_things _ _ _) ?_
      refine ixL_mk (SqL.of R1.li) (at_of (j := 0) rfl (by rw [List.getElem?_map, he]; rfl)) ?_
      exact hQ e he _ s1

theorem ok_Pile_lay (T : Tx K mg) (t : Bool) {fd : FuncData} (F : FnP K "lay" "Pile.lay" s_Pile_lay (He.ma K (He.ga K "Pile") "lay") fd) : Fn P w K mg base 1 (He.ma K (He.ga K "Pile") "lay") P_Pile_lay (spLay K t) := by
  have Pt := pt_of T t
  refine fn_ok F sc_Pile_lay (fun vs H Q E h => ?_) (fun _ _ _ _ _ _ us hl => match us, hl with | [_, _, _], _ => rfl) (fun cdv A outer s0 H vs Q E hr h => ?_)
  · obtain ⟨a, s, hv, k, x, rfl, _⟩ := h
    rfl
  · obtain ⟨a, s, hv, k, x, rfl, R, hk, hl, hx, hQ⟩ := h
    have hu := hu_of hr
    refine ⟨_, (pss_cons (ps_asg (pv 2) (pg_sub (pe_fld (pv 0) rfl) (pv 1) set_list))
    (pss_one (ps_dput hu (pe_fld (pv 0) rfl) (pe_ix ix_tup (pv 2) pe_int (fun _ _ => rfl)) (pv 1) rfl))), ?_⟩
    rw [show start N_Pile_lay [V.ref a.p, V.int (k : Int), V.ref x.1] = [some (V.ref a.p), some (V.int (k : Int)), some (V.ref x.1)] from rfl]
    walk_at "rd"
    refine fldR.mk R.ob Pt.cl Pt.nt (pf_things _ _ _) ?_
    refine ⟨a.l, _, _, k, rfl, rfl, R.li, ixN_of (by rw [List.length_map]; exact hk), ?_⟩
    have ob1 : (upd H a.l (.lst ((s.1.map fun e => V.ref e.1).set k (V.ref x.1)))) a.p = some (.ins (pC K t) a.dx (pf a.l a.d hv)) := by rw [upd_ne R.npl]; exact R.ob
    have di1 : (upd H a.l (.lst ((s.1.map fun e => V.ref e.1).set k (V.ref x.1)))) a.d = some (.dK s.2) := by rw [upd_ne R.nld.symm]; exact R.di
    have nxl : x.1 ≠ a.l := ne_of hx R.li fun z => by cases z
    refine fldR.mk ob1 Pt.cl Pt.nw (pf_where _ _ _) ?_
    refine ixT1 (n := x.2.1) (c := x.2.2) (by rw [upd_ne nxl]; exact hx) ?_
    refine dpR.mk di1 (by omega) ?_
    have fr : FrP a H (upd (upd H a.l (.lst ((s.1.map fun e => V.ref e.1).set k (V.ref x.1)))) a.d (.dK (putK s.2 (Sum.inl x.2.2) (.int (k : Int))))) := fun b o e h1 h2 h3 => by rw [upd_ne h3, upd_ne h2]; exact e
    refine hQ _ ⟨by rw [upd_ne R.npd]; exact ob1, ?_, upd_same, fun e he => ?_⟩ fr
    · show _ = some (HO.lst ((s.1.set k x).map fun e => V.ref e.1))
      rw [upd_ne R.nld, upd_same, List.map_set]
    · have he : e ∈ s.1.set k x := he
      rcases List.mem_or_eq_of_mem_set he with z | z
      · exact R.tup fr (R.tu e z)
      · subst z; exact R.tup fr hx

/-- between two turns of rise: m the place -/
def RiseW (K : PySem.W.Frag) (t : Bool) (a : PA) (hv : Int) (x : En) (H : Hp) (z : Sx) : Nat → L2.St → Hp → Prop := fun m σ H1 =>
  ∃ (s1 : Sx), σ = [some (.ref a.p), some (.int (m : Int)), some (.ref x.1)] ∧ PRaw K t a H1 s1 hv ∧ H1 x.1 = some (tV x.2) ∧ m < s1.1.length ∧ s1.2.length + m < 1000000 ∧ FrP a H H1 ∧ (riseM t x s1 m).1 = z
theorem ok_Pile_rise (T : Tx K mg) (t : Bool) (F_ahead : Fn P w K mg base 1 (pAh K t) P_Pile_ahead (spAhead t)) (F_lay : Fn P w K mg base 1 (He.ma K (He.ga K "Pile") "lay") P_Pile_lay (spLay K t)) {fd : FuncData} (F : FnP K "rise" "Pile.rise" s_Pile_rise (He.ma K (He.ga K "Pile") "rise") fd) : Fn P w K mg base 2 (He.ma K (He.ga K "Pile") "rise") P_Pile_rise (spRise K t) := by
  have Pt := pt_of T t
  refine fn_ok F sc_Pile_rise (fun vs H Q E h => ?_) (fun _ _ _ _ _ _ us hl => match us, hl with | [_, _], _ => rfl) (fun cdv A outer s0 H vs Q E hr h => ?_)
  · obtain ⟨a, s, hv, k, rfl, _⟩ := h
    rfl
  · obtain ⟨a, s, hv, k, rfl, R, hk, hl, hQ⟩ := h
    refine ⟨_, (pss_cons (ps_set (i := 2) sc_Pile_rise.nd rfl (Or.inl rfl) (pe_ix ix_list (pe_fld (pv 0) rfl) (pv 1) (fun _ _ => rfl)))
    (pss_cons (ps_while PassesOwn.never (PW.pt (pw_and (pt_cmpR op_gt (pv 1) pe_int (nomark _)) (pw_and1 (pt_val (pe_methF (pv 0) Pt.cl Pt.m_ahead F_ahead hr (fun _ => nopass) (pa_cons (pv 2) (pa_cons (pe_ix ix_list (pe_fld (pv 0) rfl) (pe_op op_fdiv (pe_op op_sub (pv 1) pe_int) pe_int) (fun _ _ => rfl)) pa_nil))))))) (pss_cons (ps_expr (pe_methF (pv 0) Pt.cl Pt.m_lay F_lay hr (fun _ => nopass) (pa_cons (pv 1) (pa_cons (pe_ix ix_list (pe_fld (pv 0) rfl) (pe_op op_fdiv (pe_op op_sub (pv 1) pe_int) pe_int) (fun _ _ => rfl)) pa_nil))))
    (pss_one (ps_set (i := 1) sc_Pile_rise.nd rfl (Or.inl rfl) (pe_op op_fdiv (pe_op op_sub (pv 1) pe_int) pe_int)))))
    (pss_one (ps_expr (pe_methF (pv 0) Pt.cl Pt.m_lay F_lay hr (fun _ => nopass) (pa_cons (pv 1) (pa_cons (pv 2) pa_nil))))))), ?_⟩
    rw [show start N_Pile_rise [V.ref a.p, V.int (k : Int)] = [some (V.ref a.p), some (V.int (k : Int)), none] from rfl]
    walk_at "rd"
    refine fldR.mk R.ob Pt.cl Pt.nt (pf_things _ _ _) ?_
    refine ixL_mk (SqL.of R.li) (at_of (j := k) rfl (by rw [List.getElem?_map, gE_some hk]; rfl)) ?_
    have hx : gE s.1 k ∈ s.1 := gE_mem hk
    have hx := R.tu _ hx
    revert hx hQ
    generalize gE s.1 k = x
    intro hQ hx
    refine ⟨RiseW K t a hv x H (riseM t x s k).1, ⟨k, s, rfl, R, hx, hk, hl, FrP.refl a H, rfl⟩, ?_⟩
    rintro m σ H1 ⟨s1, rfl, R1, hx1, hk1, hl1, fr1, e1⟩
    -- what is done where the loop ends
    have last : ¬ (0 < m ∧ ah t x.2 (gE s1.1 ((m - 1) / 2)).2 = true) → metR (pC K t) "lay" (V.ref a.p) H1 (spLay K t [V.ref a.p, V.int (m : Int), V.ref x.1] H1 (fun _ H' => Q V.non H') E0) := fun c => by
      refine metR.mk R1.ob (pf_no _ _ _ (by decide +kernel) (by decide +kernel) (by decide +kernel)) ?_
      refine ⟨a, s1, hv, m, x, rfl, R1, hk1, by omega, hx1, fun H2 R2 f2 => ?_⟩
      refine hQ H2 ?_ (fr1.trans f2)
      rw [← e1, riseM, dif_neg c]
      exact R2
    walk_at "rd"
    by_cases c1 : (0 : Int) < (m : Int)
    · rw [if_pos c1]
      have c1' : 0 < m := by omega
      have hp : (m - 1) / 2 < s1.1.length := by omega
      refine metR.mk R1.ob (pf_no _ _ _ (by decide +kernel) (by decide +kernel) (by decide +kernel)) ?_
      refine fldR.mk R1.ob Pt.cl Pt.nt (pf_things _ _ _) ?_
      refine ixL_mk (SqL.of R1.li) (at_of (j := (m - 1) / 2) (half_up c1') (by rw [List.getElem?_map, gE_some hp]; rfl)) ?_
      have hy := R1.tu _ (gE_mem hp)
      refine ⟨_, x, gE s1.1 ((m - 1) / 2), rfl, hx1, hy, ?_⟩
      refine ⟨_, rfl, ?_⟩
      by_cases c2 : ah t x.2 (gE s1.1 ((m - 1) / 2)).2 = true
      · rw [c2]
        refine iteT ?_
        refine ⟨fun σ' H' => ∃ m', m' < m ∧ RiseW K t a hv x H (riseM t x s k).1 m' σ' H', fun σ' H' h => h, ?_⟩
        walk_at "rd"
        refine metR.mk R1.ob (pf_no _ _ _ (by decide +kernel) (by decide +kernel) (by decide +kernel)) ?_
        refine fldR.mk R1.ob Pt.cl Pt.nt (pf_things _ _ _) ?_
        refine ixL_mk (SqL.of R1.li) (at_of (j := (m - 1) / 2) (half_up c1') (by rw [List.getElem?_map, gE_some hp]; rfl)) ?_
        refine ⟨a, s1, hv, m, gE s1.1 ((m - 1) / 2), rfl, R1, hk1, by omega, hy, fun H2 R2 f2 => ?_⟩
        have := layM_kv s1 m (gE s1.1 ((m - 1) / 2))
        refine ⟨(m - 1) / 2, by omega, layM s1 m (gE s1.1 ((m - 1) / 2)), by rw [half_up c1'], R2, R1.tup f2 hx1, by rw [layM_len]; exact hp, by omega, fr1.trans f2, ?_⟩
        rw [← e1]
        conv => rhs; rw [riseM, dif_pos ⟨c1', c2⟩]
      · have c2' : ah t x.2 (gE s1.1 ((m - 1) / 2)).2 = false := by simpa using c2
        rw [c2']
        refine iteF ?_
        exact last fun h => c2 h.2
    · rw [if_neg c1]
      exact last fun h => c1 (by omega)

theorem ok_Pile_put (T : Tx K mg) (t : Bool) (F_rise : Fn P w K mg base 2 (He.ma K (He.ga K "Pile") "rise") P_Pile_rise (spRise K t)) {fd : FuncData} (F : FnP K "put" "Pile.put" s_Pile_put (He.ma K (He.ga K "Pile") "put") fd) : Fn P w K mg base 3 (He.ma K (He.ga K "Pile") "put") P_Pile_put (spPut K t) := by
  have Pt := pt_of T t
  refine fn_okX F sc_Pile_put (fun vs H Q E h => ?_) (fun _ _ _ _ _ _ us hl => match us, hl with | [_, _], _ => rfl) (fun cdv A outer s0 H vs Q E hr h => ?_)
  · obtain ⟨a, s, hv, x, rfl, _⟩ := h
    rfl
  · obtain ⟨a, s, hv, x, rfl, R, hx, hl, hE, hQ⟩ := h
    have hu := hu_of hr
    refine ⟨_, (pss_cons (ps_if (pt_cmp (pc_din hu (pe_ix ix_tup (pv 1) pe_int (fun _ _ => rfl)) (pe_fld (pv 0) rfl))) (pss_one (ps_raise rfl (takes_of rfl rfl rfl rfl) (pmk_own PySem.F.excBase_ValueError T.xc_Twice.1 T.g_Twice T.xc_Twice.2.1 (raises_own T.xc_Twice.2.2.1 T.xc_Twice.2.2.2) rfl))) pss_nil)
    (pss_cons (ps_expr (pe_bm PySem.F.plainAttrs_list PySem.F.slot_list_append PySem.F.type_list_append mt_append (pe_fld (pv 0) rfl) (pa_cons (pv 1) pa_nil)))
    (pss_cons (ps_fldaug (pv 0) (pe_ix ix_tup (pv 1) pe_int (fun _ _ => rfl)) in_add)
    (pss_one (ps_expr (pe_methF (pv 0) Pt.cl Pt.m_rise F_rise hr (fun _ => nopass) (pa_cons (pe_op op_sub (pe_callB call_len_seq rfl T.z_len PySem.boot_len (pa_cons (pe_fld (pv 0) rfl) pa_nil)) pe_int) pa_nil))))))), ?_⟩
    rw [show start N_Pile_put [V.ref a.p, V.ref x.1] = [some (V.ref a.p), some (V.ref x.1)] from rfl]
    walk_at "rd"
    refine ixT1 hx ?_
    refine fldR.mk R.ob Pt.cl Pt.nw (pf_where _ _ _) ?_
    refine diR.mk R.di ?_
    cases hv0 : valV s.2 (Sum.inl x.2.2 : Key) with
    | some v => exact iteT (hE v hv0)
    | none =>
      refine iteF ?_
      refine fldR.mk R.ob Pt.cl Pt.nt (pf_things _ _ _) ?_
      refine ⟨.inl ⟨rfl, _, SqL.of R.li⟩, a.l, _, _, rfl, rfl, R.li, by rw [List.length_map, PySem.sizeLine_eq]; omega, ?_⟩
      have nxl : x.1 ≠ a.l := ne_of hx R.li fun z => by cases z
      have nxp : x.1 ≠ a.p := ne_of hx R.ob fun z => by cases z
      have e1 : (s.1.map fun e => V.ref e.1) ++ [V.ref x.1] = (s.1 ++ [x]).map fun e => V.ref e.1 := by rw [List.map_append]; rfl
      rw [e1]
      have f1 : FrP a H (upd H a.l (.lst ((s.1 ++ [x]).map fun e => V.ref e.1))) := fun b o e h1 h2 h3 => by rw [upd_ne h2]; exact e
      have ob1 : (upd H a.l (.lst ((s.1 ++ [x]).map fun e => V.ref e.1))) a.p = some (.ins (pC K t) a.dx (pf a.l a.d hv)) := by rw [upd_ne R.npl]; exact R.ob
      walk_at "rd"
      refine augR.mk ob1 Pt.cl Pt.nh (pf_heavy _ _ _) ?_
      refine ixT0 (n := x.2.1) (c := x.2.2) (by rw [upd_ne nxl]; exact hx) ?_
      refine ⟨hv, x.2.1, rfl, rfl, a.dx, _, ob1, by show 3 < 1000; decide, ?_⟩
      rw [pf_put]
      have R2 : PRaw K t a (upd (upd H a.l (.lst ((s.1 ++ [x]).map fun e => V.ref e.1))) a.p (.ins (pC K t) a.dx (pf a.l a.d (hv + x.2.1)))) (s.1 ++ [x], s.2) (hv + x.2.1) := by
        refine ⟨upd_same, ?_, ?_, fun e he => ?_⟩
        · rw [upd_ne R.npl.symm]; exact upd_same
        · rw [upd_ne R.npd.symm, upd_ne R.nld.symm]; exact R.di
        · rcases List.mem_append.mp he with z | z
          · have q := R.tu e z
            rw [upd_ne (ne_of q R.ob fun z => by cases z), upd_ne (ne_of q R.li fun z => by cases z)]
            exact q
          · have z : e = x := List.mem_singleton.mp z
            rw [z, upd_ne nxp, upd_ne nxl]
            exact hx
      have f2 : FrP a H (upd (upd H a.l (.lst ((s.1 ++ [x]).map fun e => V.ref e.1))) a.p (.ins (pC K t) a.dx (pf a.l a.d (hv + x.2.1)))) := fun b o e h1 h2 h3 => by rw [upd_ne h1]; exact f1 b o e h1 h2 h3
      revert R2 f2
      generalize (upd (upd H a.l (.lst ((s.1 ++ [x]).map fun e => V.ref e.1))) a.p (.ins (pC K t) a.dx (pf a.l a.d (hv + x.2.1)))) = H2
      intro R2 f2
      have noR : (pf a.l a.d (hv + x.2.1)).lookup ("rise" : Str) = none := pf_no _ _ _ (by decide +kernel) (by decide +kernel) (by decide +kernel)
      walk_at "rd"
      refine metR.mk R2.ob noR ?_
      refine fldR.mk R2.ob Pt.cl Pt.nt (pf_things _ _ _) ?_
      refine ⟨a.l, rfl, _, .inl (SqL.of R2.li), ?_⟩
      have el : ((((s.1 ++ [x]).map fun e => V.ref e.1).length : Nat) : Int) - 1 = ((s.1.length : Nat) : Int) := by simp
      rw [el]
      refine ⟨a, _, _, s.1.length, rfl, R2, by simp, by show s.2.length + s.1.length < 1000000; omega, fun H3 R3 f3 => ?_⟩
      have eg : gE (s.1 ++ [x]) s.1.length = x := gE_of (by simp)
      rw [eg] at R3
      exact hQ hv0 H3 R3 (f2.trans f3)

/-- between two turns of sink: m: the length less the place -/
def SinkW (K : PySem.W.Frag) (t : Bool) (a : PA) (hv : Int) (x : En) (H : Hp) (z : Sx) : Nat → L2.St → Hp → Prop := fun m σ H1 =>
  ∃ (k1 : Nat) (s1 : Sx) (v : Option V), σ = [some (.ref a.p), some (.int (k1 : Int)), some (.ref x.1), v] ∧ m = s1.1.length - k1 ∧ PRaw K t a H1 s1 hv ∧ H1 x.1 = some (tV x.2) ∧ k1 < s1.1.length ∧ s1.2.length + (s1.1.length - k1) < 1000000 ∧ FrP a H H1 ∧ sinkM t x s1 k1 = z
theorem ok_Pile_sink (T : Tx K mg) (t : Bool) (F_ahead : Fn P w K mg base 1 (pAh K t) P_Pile_ahead (spAhead t)) (F_lay : Fn P w K mg base 1 (He.ma K (He.ga K "Pile") "lay") P_Pile_lay (spLay K t)) {fd : FuncData} (F : FnP K "sink" "Pile.sink" s_Pile_sink (He.ma K (He.ga K "Pile") "sink") fd) : Fn P w K mg base 2 (He.ma K (He.ga K "Pile") "sink") P_Pile_sink (spSink K t) := by
  have Pt := pt_of T t
  refine fn_ok F sc_Pile_sink (fun vs H Q E h => ?_) (fun _ _ _ _ _ _ us hl => match us, hl with | [_, _], _ => rfl) (fun cdv A outer s0 H vs Q E hr h => ?_)
  · obtain ⟨a, s, hv, k, rfl, _⟩ := h
    rfl
  · obtain ⟨a, s, hv, k, rfl, R, hk, hl, hQ⟩ := h
    refine ⟨_, (pss_cons (ps_set (i := 2) sc_Pile_sink.nd rfl (Or.inl rfl) (pe_ix ix_list (pe_fld (pv 0) rfl) (pv 1) (fun _ _ => rfl)))
    (pss_cons (ps_while PassesOwn.never (pt_cmpR op_lt (pe_op op_add (pe_op op_mul pe_int (pv 1)) pe_int) (pe_callB call_len_seq rfl T.z_len PySem.boot_len (pa_cons (pe_fld (pv 0) rfl) pa_nil)) (nomark _)) (pss_cons (ps_set (i := 3) sc_Pile_sink.nd rfl (Or.inl rfl) (pe_op op_add (pe_op op_mul pe_int (pv 1)) pe_int))
    (pss_cons (ps_if (PW.pt (pw_and (pt_cmpR op_lt (pe_op op_add (pv 3) pe_int) (pe_callB call_len_seq rfl T.z_len PySem.boot_len (pa_cons (pe_fld (pv 0) rfl) pa_nil)) (nomark _)) (pw_and1 (pt_val (pe_methF (pv 0) Pt.cl Pt.m_ahead F_ahead hr (fun _ => nopass) (pa_cons (pe_ix ix_list (pe_fld (pv 0) rfl) (pe_op op_add (pv 3) pe_int) (fun _ _ => rfl)) (pa_cons (pe_ix ix_list (pe_fld (pv 0) rfl) (pv 3) (fun _ _ => rfl)) pa_nil))))))) (pss_one (ps_aug (i := 3) sc_Pile_sink.nd rfl (Or.inl rfl) pe_int ip_add)) pss_nil)
    (pss_cons (ps_if (pt_not (pt_val (pe_methF (pv 0) Pt.cl Pt.m_ahead F_ahead hr (fun _ => nopass) (pa_cons (pe_ix ix_list (pe_fld (pv 0) rfl) (pv 3) (fun _ _ => rfl)) (pa_cons (pv 2) pa_nil))))) (pss_one ps_break) pss_nil)
    (pss_cons (ps_expr (pe_methF (pv 0) Pt.cl Pt.m_lay F_lay hr (fun _ => nopass) (pa_cons (pv 1) (pa_cons (pe_ix ix_list (pe_fld (pv 0) rfl) (pv 3) (fun _ _ => rfl)) pa_nil))))
    (pss_one (ps_set (i := 1) sc_Pile_sink.nd rfl (Or.inl rfl) (pv 3))))))))
    (pss_one (ps_expr (pe_methF (pv 0) Pt.cl Pt.m_lay F_lay hr (fun _ => nopass) (pa_cons (pv 1) (pa_cons (pv 2) pa_nil))))))), ?_⟩
    rw [show start N_Pile_sink [V.ref a.p, V.int (k : Int)] = [some (V.ref a.p), some (V.int (k : Int)), none, none] from rfl]
    walk_at "rd"
    refine fldR.mk R.ob Pt.cl Pt.nt (pf_things _ _ _) ?_
    refine ixL_mk (SqL.of R.li) (at_of (j := k) rfl (by rw [List.getElem?_map, gE_some hk]; rfl)) ?_
    have hx : gE s.1 k ∈ s.1 := gE_mem hk
    have hx := R.tu _ hx
    revert hx hQ
    generalize gE s.1 k = x
    intro hQ hx
    refine ⟨SinkW K t a hv x H (sinkM t x s k), ⟨_, k, s, none, rfl, rfl, R, hx, hk, by omega, FrP.refl a H, rfl⟩, ?_⟩
    rintro m σ H1 ⟨k1, s1, v, rfl, rfl, R1, hx1, hk1, hl1, fr1, e1⟩
    -- what is done where the loop ends
    have last : ∀ H2, H2 = H1 → ¬ (2 * k1 + 1 < s1.1.length ∧ ah t (gE s1.1 (pick t s1.1 k1)).2 x.2 = true) → metR (pC K t) "lay" (V.ref a.p) H2 (spLay K t [V.ref a.p, V.int (k1 : Int), V.ref x.1] H2 (fun _ H' => Q V.non H') E0) := fun H2 e2 c => by
      subst e2
      refine metR.mk R1.ob (pf_no _ _ _ (by decide +kernel) (by decide +kernel) (by decide +kernel)) ?_
      refine ⟨a, s1, hv, k1, x, rfl, R1, hk1, by omega, hx1, fun H3 R2 f2 => ?_⟩
      refine hQ H3 ?_ (fr1.trans f2)
      rw [← e1, sinkM, dif_neg c]
      exact R2
    -- the turn's second half: the thing below is known
    have down : ∀ (q : Nat) (qi : Int) (v2 : Option V), qi = (q : Int) → 2 * k1 + 1 < s1.1.length → q = pick t s1.1 k1 → ah t (gE s1.1 q).2 x.2 = true →
        spLay K t [V.ref a.p, V.int (k1 : Int), V.ref (gE s1.1 q).1] H1 (fun _ H' => ∃ m', m' < s1.1.length - k1 ∧ SinkW K t a hv x H (sinkM t x s k) m' [some (.ref a.p), some (.int qi), some (.ref x.1), v2] H') E0 := fun q qi v2 hi c1 hq c2 => by
      obtain ⟨g1, g2, g3⟩ := pick_gt t s1.1 k1
      have hp : q < s1.1.length := by rw [hq]; exact pick_lt c1
      have hy := R1.tu _ (gE_mem hp)
      refine ⟨a, s1, hv, k1, gE s1.1 q, rfl, R1, hk1, by omega, hy, fun H2 R2 f2 => ?_⟩
      have := layM_kv s1 k1 (gE s1.1 q)
      have := layM_len s1 k1 (gE s1.1 q)
      refine ⟨s1.1.length - q, by omega, q, layM s1 k1 (gE s1.1 q), v2, by rw [hi], by rw [layM_len], R2, R1.tup f2 hx1, by omega, by omega, fr1.trans f2, ?_⟩
      rw [← e1]
      conv => rhs; rw [sinkM, dif_pos ⟨c1, by rw [← hq]; exact c2⟩]
      rw [hq]
    walk_at "rd"
    have two : CMul 2 (k1 : Int) := .inl ⟨by decide, by decide⟩
    have noA : (pf a.l a.d hv).lookup ("ahead" : Str) = none := pf_no _ _ _ (by decide +kernel) (by decide +kernel) (by decide +kernel)
    have noL : (pf a.l a.d hv).lookup ("lay" : Str) = none := pf_no _ _ _ (by decide +kernel) (by decide +kernel) (by decide +kernel)
    have le : (s1.1.map fun e => V.ref e.1).length = s1.1.length := List.length_map _
    refine ⟨two, fldR.mk R1.ob Pt.cl Pt.nt (pf_things _ _ _) ⟨a.l, rfl, _, .inl (SqL.of R1.li), ?_⟩⟩
    refine ite2 (fun c1 => ?_) (fun c1 => ?_)
    · have c1 : 2 * k1 + 1 < s1.1.length := by omega
      refine ⟨fun σ' H' => ∃ m', m' < s1.1.length - k1 ∧ SinkW K t a hv x H (sinkM t x s k) m' σ' H', fun σ' H' h => h, ?_⟩
      have gt1 : (s1.1.map fun e => V.ref e.1)[2 * k1 + 1]? = some (V.ref (gE s1.1 (2 * k1 + 1)).1) := by rw [List.getElem?_map, gE_some c1]; rfl
      have ht1 := R1.tu _ (gE_mem c1)
      have at1 : atI (s1.1.map fun e => V.ref e.1) (2 * (k1 : Int) + 1) = some (V.ref (gE s1.1 (2 * k1 + 1)).1) := at_of (j := 2 * k1 + 1) (by omega) gt1
      -- the turn's end: q is what pick chooses
      have stop : ∀ q : Nat, q = pick t s1.1 k1 → ah t (gE s1.1 q).2 x.2 = false → ¬ (2 * k1 + 1 < s1.1.length ∧ ah t (gE s1.1 (pick t s1.1 k1)).2 x.2 = true) := fun q hq hf => by
        rw [← hq, hf]
        rintro ⟨_, z⟩
        cases z
      refine ⟨two, fldR.mk R1.ob Pt.cl Pt.nt (pf_things _ _ _) ⟨a.l, rfl, _, .inl (SqL.of R1.li), ?_⟩⟩
      refine ite2 (fun c2 => ?_) (fun c2 => ?_)
      · have c2 : 2 * k1 + 1 + 1 < s1.1.length := by omega
        have gt2 : (s1.1.map fun e => V.ref e.1)[2 * k1 + 1 + 1]? = some (V.ref (gE s1.1 (2 * k1 + 1 + 1)).1) := by rw [List.getElem?_map, gE_some c2]; rfl
        have ht2 := R1.tu _ (gE_mem c2)
        have at2 : atI (s1.1.map fun e => V.ref e.1) (2 * (k1 : Int) + 1 + 1) = some (V.ref (gE s1.1 (2 * k1 + 1 + 1)).1) := at_of (j := 2 * k1 + 1 + 1) (by omega) gt2
        refine metR.mk R1.ob noA (fldR.mk R1.ob Pt.cl Pt.nt (pf_things _ _ _) (ixL_mk (SqL.of R1.li) at2 (fldR.mk R1.ob Pt.cl Pt.nt (pf_things _ _ _) (ixL_mk (SqL.of R1.li) at1 ?_))))
        refine ⟨_, gE s1.1 (2 * k1 + 1 + 1), gE s1.1 (2 * k1 + 1), rfl, ht2, ht1, _, rfl, ?_⟩
        by_cases c3 : ah t (gE s1.1 (2 * k1 + 1 + 1)).2 (gE s1.1 (2 * k1 + 1)).2 = true
        · rw [c3]
          refine iteT ?_
          have hq : 2 * k1 + 1 + 1 = pick t s1.1 k1 := (if_pos ⟨c2, c3⟩).symm
          refine metR.mk R1.ob noA (fldR.mk R1.ob Pt.cl Pt.nt (pf_things _ _ _) (ixL_mk (SqL.of R1.li) at2 ?_))
          refine ⟨_, gE s1.1 (2 * k1 + 1 + 1), x, rfl, ht2, hx1, _, rfl, ?_⟩
          cases c4 : ah t (gE s1.1 (2 * k1 + 1 + 1)).2 x.2 with
          | false =>
            refine (if_pos rfl).mpr ?_
            exact last _ rfl (stop _ hq c4)
          | true =>
            refine (if_neg (by decide)).mpr ?_
            walk_at "rd"
            exact metR.mk R1.ob noL (fldR.mk R1.ob Pt.cl Pt.nt (pf_things _ _ _) (ixL_mk (SqL.of R1.li) at2 (down (2 * k1 + 1 + 1) (2 * (k1 : Int) + 1 + 1) (some (V.int (2 * (k1 : Int) + 1 + 1))) (by omega) c1 hq c4)))
        · have c3' : ah t (gE s1.1 (2 * k1 + 1 + 1)).2 (gE s1.1 (2 * k1 + 1)).2 = false := by simpa using c3
          rw [c3']
          refine iteF ?_
          have hq : 2 * k1 + 1 = pick t s1.1 k1 := (if_neg fun h => c3 h.2).symm
          refine metR.mk R1.ob noA (fldR.mk R1.ob Pt.cl Pt.nt (pf_things _ _ _) (ixL_mk (SqL.of R1.li) at1 ?_))
          refine ⟨_, gE s1.1 (2 * k1 + 1), x, rfl, ht1, hx1, _, rfl, ?_⟩
          cases c4 : ah t (gE s1.1 (2 * k1 + 1)).2 x.2 with
          | false =>
            refine (if_pos rfl).mpr ?_
            exact last _ rfl (stop _ hq c4)
          | true =>
            refine (if_neg (by decide)).mpr ?_
            walk_at "rd"
            exact metR.mk R1.ob noL (fldR.mk R1.ob Pt.cl Pt.nt (pf_things _ _ _) (ixL_mk (SqL.of R1.li) at1 (down (2 * k1 + 1) (2 * (k1 : Int) + 1) (some (V.int (2 * (k1 : Int) + 1))) (by omega) c1 hq c4)))
      · have hq : 2 * k1 + 1 = pick t s1.1 k1 := (if_neg fun h => c2 (by have := h.1; omega)).symm
        refine metR.mk R1.ob noA (fldR.mk R1.ob Pt.cl Pt.nt (pf_things _ _ _) (ixL_mk (SqL.of R1.li) at1 ?_))
        refine ⟨_, gE s1.1 (2 * k1 + 1), x, rfl, ht1, hx1, _, rfl, ?_⟩
        cases c4 : ah t (gE s1.1 (2 * k1 + 1)).2 x.2 with
        | false =>
          refine (if_pos rfl).mpr ?_
          exact last _ rfl (stop _ hq c4)
        | true =>
          refine (if_neg (by decide)).mpr ?_
          walk_at "rd"
          exact metR.mk R1.ob noL (fldR.mk R1.ob Pt.cl Pt.nt (pf_things _ _ _) (ixL_mk (SqL.of R1.li) at1 (down (2 * k1 + 1) (2 * (k1 : Int) + 1) (some (V.int (2 * (k1 : Int) + 1))) (by omega) c1 hq c4)))
    · exact last _ rfl fun h => c1 (by omega)

theorem riseM_get (t : Bool) (x : En) : ∀ (k : Nat) (s : Sx), k < s.1.length → (riseM t x s k).1.1[(riseM t x s k).2]? = some x := by
  intro k
  induction k using Nat.strongRecOn with
  | ind k ih =>
    intro s hk
    rw [riseM]
    by_cases c : 0 < k ∧ ah t x.2 (gE s.1 ((k - 1) / 2)).2 = true
    · rw [dif_pos c]
      exact ih ((k - 1) / 2) (by omega) _ (by rw [layM_len]; omega)
    · rw [dif_neg c]
      show (s.1.set k x)[k]? = some x
      rw [List.getElem?_set_self hk]
theorem len_dropK (kvs : Kvs) (k : Key) : (dropK kvs k).length ≤ kvs.length := by
  unfold dropK
  exact List.length_filter_le _ _
theorem ok_Pile_take (T : Tx K mg) (t : Bool) (F_lay : Fn P w K mg base 1 (He.ma K (He.ga K "Pile") "lay") P_Pile_lay (spLay K t)) (F_rise : Fn P w K mg base 2 (He.ma K (He.ga K "Pile") "rise") P_Pile_rise (spRise K t)) (F_sink : Fn P w K mg base 2 (He.ma K (He.ga K "Pile") "sink") P_Pile_sink (spSink K t)) {fd : FuncData} (F : FnP K "take" "Pile.take" s_Pile_take (He.ma K (He.ga K "Pile") "take") fd) : Fn P w K mg base 3 (He.ma K (He.ga K "Pile") "take") P_Pile_take (spTake K t) := by
  have Pt := pt_of T t
  refine fn_okX F sc_Pile_take (fun vs H Q E h => ?_) (fun _ _ _ _ _ _ us hl => match us, hl with | [_, _], _ => rfl) (fun cdv A outer s0 H vs Q E hr h => ?_)
  · obtain ⟨a, s, hv, c, rfl, _⟩ := h
    rfl
  · obtain ⟨a, s, hv, c, rfl, R, hl, hE, hQ⟩ := h
    have hu := hu_of hr
    refine ⟨_, (pss_cons (ps_if (pt_cmp (pc_dnotin hu (pv 1) (pe_fld (pv 0) rfl))) (pss_one (ps_raise rfl (takes_of rfl rfl rfl rfl) (pmk_own PySem.F.excBase_ValueError T.xc_NoThing.1 T.g_NoThing T.xc_NoThing.2.1 (raises_own T.xc_NoThing.2.2.1 T.xc_NoThing.2.2.2) rfl))) pss_nil)
    (pss_cons (ps_set (i := 2) sc_Pile_take.nd rfl (Or.inl rfl) (pe_dpop1 (pe_fld (pv 0) rfl) (pv 1) ⟨by rfl, by rfl, by rfl, by rfl⟩))
    (pss_cons (ps_set (i := 3) sc_Pile_take.nd rfl (Or.inl rfl) (pe_ix ix_list (pe_fld (pv 0) rfl) (pv 2) (fun _ _ => rfl)))
    (pss_cons (ps_set (i := 4) sc_Pile_take.nd rfl (Or.inl rfl) (pe_bm0 PySem.F.plainAttrs_list PySem.F.slot_list_pop PySem.F.type_list_pop mt_pop (pe_fld (pv 0) rfl)))
    (pss_cons (ps_if (pt_cmpR op_lt (pv 2) (pe_callB call_len_seq rfl T.z_len PySem.boot_len (pa_cons (pe_fld (pv 0) rfl) pa_nil)) (nomark _)) (pss_cons (ps_expr (pe_methF (pv 0) Pt.cl Pt.m_lay F_lay hr (fun _ => nopass) (pa_cons (pv 2) (pa_cons (pv 4) pa_nil))))
    (pss_cons (ps_expr (pe_methF (pv 0) Pt.cl Pt.m_rise F_rise hr (fun _ => nopass) (pa_cons (pv 2) pa_nil)))
    (pss_one (ps_expr (pe_methF (pv 0) Pt.cl Pt.m_sink F_sink hr (fun _ => nopass) (pa_cons (pe_dget hu (pe_fld (pv 0) rfl) (pe_ix ix_tup (pv 4) pe_int (fun _ _ => rfl)) (fun _ _ => rfl)) pa_nil)))))) pss_nil)
    (pss_cons (ps_fldaug (pv 0) (pe_ix ix_tup (pv 3) pe_int (fun _ _ => rfl)) in_sub)
    (pss_one (ps_ret (pv 3))))))))), ?_⟩
    rw [show start N_Pile_take [V.ref a.p, V.int c] = [some (V.ref a.p), some (V.int c), none, none, none] from rfl]
    walk_at "rd"
    refine fldR.mk R.ob Pt.cl Pt.nw (pf_where _ _ _) ?_
    refine diR.mk R.di ?_
    cases hv0 : valV s.2 (Sum.inl c : Key) with
    | none => exact (if_pos rfl).mpr (hE hv0)
    | some v =>
      refine (if_neg (by simp)).mpr ?_
      obtain ⟨k, rfl, hk, _, _, hc, hQ⟩ := hQ v hv0
      refine fldR.mk R.ob Pt.cl Pt.nw (pf_where _ _ _) ?_
      refine ⟨a.d, rfl, .inl ⟨_, .inl R.di⟩, _, Sum.inl c, _, R.di, rfl, hv0, ?_⟩
      have f1 : FrP a H (upd H a.d (.dK (dropK s.2 (Sum.inl c)))) := fun b o e h1 h2 h3 => by rw [upd_ne h3]; exact e
      have R1 : PRaw K t a (upd H a.d (.dK (dropK s.2 (Sum.inl c)))) (s.1, dropK s.2 (Sum.inl c)) hv := ⟨by rw [upd_ne R.npd]; exact R.ob, by rw [upd_ne R.nld]; exact R.li, upd_same, fun e he => R.tup f1 (R.tu e he)⟩
      have hd := len_dropK s.2 (Sum.inl c)
      revert R1 f1
      generalize upd H a.d (.dK (dropK s.2 (Sum.inl c))) = H1
      intro f1 R1
      refine fldR.mk R1.ob Pt.cl Pt.nt (pf_things _ _ _) ?_
      refine ixL_mk (SqL.of R1.li) (at_of (j := k) rfl (by rw [List.getElem?_map, gE_some hk]; rfl)) ?_
      have hy := R1.tu _ (gE_mem (l := s.1) hk)
      refine fldR.mk R1.ob Pt.cl Pt.nt (pf_things _ _ _) ⟨.inl ⟨rfl, _, SqL.of R1.li⟩, a.l, _, V.ref (gE s.1 (s.1.length - 1)).1, rfl, rfl, R1.li, by rw [List.length_map, List.getElem?_map, gE_some (l := s.1) (i := s.1.length - 1) (by omega)]; rfl, ?_⟩
      have hz := R1.tu _ (gE_mem (l := s.1) (i := s.1.length - 1) (by omega))
      have f2 : FrP a H (upd H1 a.l (.lst (s.1.map fun e => V.ref e.1).dropLast)) := fun b o e h1 h2 h3 => by rw [upd_ne h2]; exact f1 b o e h1 h2 h3
      have g2 : FrP a H1 (upd H1 a.l (.lst (s.1.map fun e => V.ref e.1).dropLast)) := fun b o e h1 h2 h3 => by rw [upd_ne h2]; exact e
      have R2 : PRaw K t a (upd H1 a.l (.lst (s.1.map fun e => V.ref e.1).dropLast)) (s.1.dropLast, dropK s.2 (Sum.inl c)) hv :=
        ⟨by rw [upd_ne R1.npl]; exact R1.ob, by rw [upd_same, List.dropLast_eq_take, List.dropLast_eq_take, List.map_take, List.length_map], by rw [upd_ne R1.nld.symm]; exact R1.di, fun e he => R1.tup g2 (R1.tu e (List.dropLast_subset _ he))⟩
      have hy := R1.tup g2 hy
      have hz := R1.tup g2 hz
      revert R2 f2 hy hz
      generalize upd H1 a.l (.lst (s.1.map fun e => V.ref e.1).dropLast) = H2
      intro f2 R2 hy hz
      have fin : ∀ H3, PRaw K t a H3 (takeM t s k) hv → FrP a H2 H3 → augR K "heavy" (V.ref a.p) H3 (fun v H1 R => rIxT K (V.ref (gE s.1 k).1) (V.int 0) H1 fun y H2 => rSub v y H2 R) (tRet (tVar 3) { nx := fun x H' => Q V.non H', rt := Q }
            [some (V.ref a.p), some (V.int c), some (V.int (k : Int)), some (V.ref (gE s.1 k).1), some (V.ref (gE s.1 (s.1.length - 1)).1)]) := fun H3 R3 f3 => by
        refine augR.mk R3.ob Pt.cl Pt.nh (pf_heavy _ _ _) ?_
        refine ixT0 (n := (gE s.1 k).2.1) (c := (gE s.1 k).2.2) (R2.tup f3 hy) ?_
        refine ⟨hv, (gE s.1 k).2.1, rfl, rfl, a.dx, _, R3.ob, by show 3 < 1000; decide, ?_⟩
        rw [pf_put]
        have f4 : FrP a H3 (upd H3 a.p (.ins (pC K t) a.dx (pf a.l a.d (hv - (gE s.1 k).2.1)))) := fun b o e h1 h2 h3 => by rw [upd_ne h1]; exact e
        refine ⟨_, rfl, hQ _ ⟨upd_same, by rw [upd_ne R3.npl.symm]; exact R3.li, by rw [upd_ne R3.npd.symm]; exact R3.di, fun e he => R3.tup f4 (R3.tu e he)⟩ ((f2.trans f3).trans f4)⟩
      have el : (List.map (fun e : En => V.ref e.1) (s.1.dropLast, dropK s.2 (Sum.inl c)).1).length = s.1.length - 1 := by rw [List.length_map]; exact List.length_dropLast
      have el2 : s.1.dropLast.length = s.1.length - 1 := List.length_dropLast
      refine fldR.mk R2.ob Pt.cl Pt.nt (pf_things _ _ _) ⟨a.l, rfl, _, .inl (SqL.of R2.li), (k : Int), rfl, ite2 (fun c1 => ?_) (fun c1 => ?_)⟩
      · have c1 : k < s.1.dropLast.length := by omega
        have noL : (pf a.l a.d hv).lookup ("lay" : Str) = none := pf_no _ _ _ (by decide +kernel) (by decide +kernel) (by decide +kernel)
        have noR : (pf a.l a.d hv).lookup ("rise" : Str) = none := pf_no _ _ _ (by decide +kernel) (by decide +kernel) (by decide +kernel)
        have noS : (pf a.l a.d hv).lookup ("sink" : Str) = none := pf_no _ _ _ (by decide +kernel) (by decide +kernel) (by decide +kernel)
        have et : takeM t s k = sinkM t (gE s.1 (s.1.length - 1)) (riseM t (gE s.1 (s.1.length - 1)) (layM (s.1.dropLast, dropK s.2 (Sum.inl c)) k (gE s.1 (s.1.length - 1))) k).1 (riseM t (gE s.1 (s.1.length - 1)) (layM (s.1.dropLast, dropK s.2 (Sum.inl c)) k (gE s.1 (s.1.length - 1))) k).2 := by
          unfold takeM
          rw [hc]
          exact if_pos c1
        rw [et] at fin
        revert fin hz
        generalize gE s.1 (s.1.length - 1) = x
        intro hz fin
        refine metR.mk R2.ob noL ⟨a, _, hv, k, x, rfl, R2, c1, by show (dropK s.2 (Sum.inl c)).length < 1000000; omega, hz, fun H3 R3 f3 => ?_⟩
        have ek : gE (layM (s.1.dropLast, dropK s.2 (Sum.inl c)) k x).1 k = x := gE_of (List.getElem?_set_self c1)
        have ll := layM_kv (s.1.dropLast, dropK s.2 (Sum.inl c)) k x
        have ll : (layM (s.1.dropLast, dropK s.2 (Sum.inl c)) k x).2.length ≤ (dropK s.2 (Sum.inl c)).length + 1 := ll
        have l3 : k < (layM (s.1.dropLast, dropK s.2 (Sum.inl c)) k x).1.length := by rw [layM_len]; exact c1
        have l4 : (layM (s.1.dropLast, dropK s.2 (Sum.inl c)) k x).1.length = s.1.dropLast.length := layM_len _ _ _
        refine metR.mk R3.ob noR ⟨a, _, hv, k, rfl, R3, l3, by omega, fun H4 R4 f4 => ?_⟩
        rw [ek] at R4
        obtain ⟨r1, r2, r3, r4⟩ := riseM_len t x k (layM (s.1.dropLast, dropK s.2 (Sum.inl c)) k x)
        have r5 := riseM_get t x k (layM (s.1.dropLast, dropK s.2 (Sum.inl c)) k x) l3
        refine metR.mk R4.ob noS (fldR.mk R4.ob Pt.cl Pt.nw (pf_where _ _ _) (ixT1 (n := x.2.1) (c := x.2.2) (R2.tup (f3.trans f4) hz) (dgR.mk R4.di r4 ?_)))
        refine ⟨a, _, hv, _, rfl, R4, lt_of_get r5, by omega, fun H5 R5 f5 => ?_⟩
        rw [gE_of r5] at R5
        exact fin H5 R5 ((f3.trans f4).trans f5)
      · have et : takeM t s k = (s.1.dropLast, dropK s.2 (Sum.inl c)) := by
          unfold takeM
          rw [hc]
          exact if_neg (by omega)
        rw [et] at fin
        exact fin H2 R2 (FrP.refl a H2)

end
end Mp

namespace Mp
open PySem PySem.Spec PyProof.Rows L2
local macro_rules | `(tactic| walk_at "rd") => `(tactic| try simp only [tSeq, tAsg, gName, tVar, tC, tOp, rI0, rI, tTest, tB, tIfS, tNext, tBreak, tCont, tRet, tRetN, tDrop, tCons, tNil, tCallS, tCB, tAnd, tOr, tNot, tAndV, tOrV, tNotV, tUn, rU, tIf, tChain, gCons, gNil, gSub, tFld_r, sFld_r, sFldAug_r, tDGet_r, tDIn_r, tDNotIn_r, sDPut_r, tDPop1_r, tMethF_r, tMakeF, tBits, tSl, tPart, tDNewK, cxOf_K, tBM, tBM0, tTup, tLst, List.length_cons, List.length_nil, Nat.reduceAdd, Nat.zero_add, PySem.sizeLine_eq, Nat.reduceLeDiff,
  List.getElem?_cons_zero, List.getElem?_cons_succ, Option.some.injEq, exists_eq_left', List.set_cons_zero, List.set_cons_succ, exists_eq_left, V.int.injEq, V.bl.injEq, V.ref.injEq, List.cons.injEq, and_true, true_and, and_assoc, exists_and_left, decide_eq_true_eq,
  rEq_int, rNe_int, cdiv_iff, cpow10, Int.reduceLT, Int.reduceLE, Int.reduceToNat, Int.reducePow, Int.reduceNeg, Int.reduceSub, Int.reduceAdd, Int.reduceMul, Nat.reducePow, Nat.reduceLT, Bool.not_eq_true', Bool.false_eq_true, if_true, if_false, not_true_eq_false, not_false_eq_true, ite_not, Bool.not_true, Bool.not_false, reduceCtorEq, ipI, tAug, isi_int_int, isi_int_bool, isi_bool_bool, Bool.true_eq_false, reduceIte])
local macro_rules | `(tactic| walk_at "fo") => `(tactic| try simp only [tFor_enum, tFor_zip, tFor_list, tFor_r1])

/-! ### the deeds of a pile, at a pile in its form -/
def wt (es : List En) : Int := (es.map (·.2.1)).sum
theorem sum_perm {a b : List Int} (p : a.Perm b) : a.sum = b.sum := by
  induction p with
  | nil => rfl
  | cons x _ ih => rw [List.sum_cons, List.sum_cons, ih]
  | swap x y l =>
    rw [List.sum_cons, List.sum_cons, List.sum_cons, List.sum_cons]
    omega
  | trans _ _ h1 h2 => exact h1.trans h2
theorem wt_perm {a b : List En} (p : a.Perm b) : wt a = wt b := sum_perm (p.map _)
theorem wt_cons (x : En) (es : List En) : wt (x :: es) = x.2.1 + wt es := rfl
structure PAt (K : PySem.W.Frag) (t : Bool) (a : PA) (H : Hp) (s : Sx) : Prop where
  raw : PRaw K t a H s (wt s.1)
  ok : PileOk t s
theorem PAt.same {K : PySem.W.Frag} {t : Bool} {a : PA} {H H' : Hp} {s : Sx} (R : PAt K t a H s) (f : Same H H') : PAt K t a H' s := ⟨R.raw.same f, R.ok⟩
theorem PAt.tup {K : PySem.W.Frag} {t : Bool} {a : PA} {H : Hp} {s : Sx} (R : PAt K t a H s) : Tup H s.1 := R.raw.tu
theorem FrP.fr {a : PA} {H H' : Hp} (f : FrP a H H') {P : List Addr} (h1 : a.p ∈ P) (h2 : a.l ∈ P) (h3 : a.d ∈ P) : Fr P H H' := fun b o e n => f b o e (fun z => n (z ▸ h1)) (fun z => n (z ▸ h2)) (fun z => n (z ▸ h3))
/-- what stands at P is no tuple -/
def NoTup (H : Hp) (P : List Addr) : Prop := ∀ b ∈ P, ∀ xs, H b ≠ some (.tup xs)
theorem NoTup.mono {H : Hp} {P P' : List Addr} (n : NoTup H P) (h : ∀ b ∈ P', b ∈ P) : NoTup H P' := fun b hb => n b (h b hb)
theorem tup_fr {P : List Addr} {H H' : Hp} {b : Addr} {xs : List V} (f : Fr P H H') (n : NoTup H P) (h : H b = some (.tup xs)) : H' b = some (.tup xs) := f b _ h fun z => n b z xs h
theorem Tup.fr2 {P : List Addr} {H H' : Hp} {es : List En} (h : Tup H es) (f : Fr P H H') (n : NoTup H P) : Tup H' es := fun e he => tup_fr f n (h e he)
theorem PAt.fr {K : PySem.W.Frag} {t : Bool} {a : PA} {P : List Addr} {H H' : Hp} {s : Sx} (R : PAt K t a H s) (f : Fr P H H') (n : NoTup H P) (h1 : a.p ∉ P) (h2 : a.l ∉ P) (h3 : a.d ∉ P) : PAt K t a H' s :=
  ⟨⟨f _ _ R.raw.ob h1, f _ _ R.raw.li h2, f _ _ R.raw.di h3, R.tup.fr2 f n⟩, R.ok⟩
theorem hPut {K : PySem.W.Frag} {t : Bool} {a : PA} {H : Hp} {s : Sx} {x : En} {Q : VK} {E : XK} (R : PAt K t a H s) (hx : H x.1 = some (tV x.2)) (hl : s.1.length < 250000)
    (hE : (∃ e ∈ s.1, e.2.2 = x.2.2) → E (.ref (He.ga K "Twice")) none H)
    (hQ : (∀ e ∈ s.1, e.2.2 ≠ x.2.2) → ∀ s' H', PAt K t a H' s' → s'.1.Perm (x :: s.1) → df s.1 s'.1 ≤ bl s.1.length → FrP a H H' → Q .non H') : spPut K t [.ref a.p, .ref x.1] H Q E := by
  have hw := R.ok.wf.len
  refine ⟨a, s, _, x, rfl, R.raw, hx, by omega, fun v hv => ?_, fun hv H' R' f => ?_⟩
  · obtain ⟨i, e, he, hc, _⟩ := R.ok.wf.find hv
    exact hE ⟨e, mem_iff_get.mpr ⟨i, he⟩, hc⟩
  · have hn := R.ok.wf.none.mp hv
    obtain ⟨k1, k2, k3⟩ := putM_ok R.ok hn
    refine hQ hn _ H' ⟨?_, k1⟩ k2 k3 f
    rw [wt_perm k2, wt_cons, Int.add_comm]
    exact R'
theorem hTake {K : PySem.W.Frag} {t : Bool} {a : PA} {H : Hp} {s : Sx} {c : Int} {Q : VK} {E : XK} (R : PAt K t a H s) (hl : s.1.length < 250000)
    (hE : (∀ e ∈ s.1, e.2.2 ≠ c) → E (.ref (He.ga K "NoThing")) none H)
    (hQ : ∀ e ∈ s.1, e.2.2 = c → ∀ s' H', PAt K t a H' s' → (e :: s'.1).Perm s.1 → df s.1 s'.1 ≤ bl (s.1.length - 1) → FrP a H H' → Q (.ref e.1) H') : spTake K t [.ref a.p, .int c] H Q E := by
  have hw := R.ok.wf.len
  refine ⟨a, s, _, c, rfl, R.raw, by omega, fun hv => hE (R.ok.wf.none.mp hv), fun v hv => ?_⟩
  obtain ⟨i, e, he, hc, rfl⟩ := R.ok.wf.find hv
  have ee : gE s.1 i = e := gE_of he
  refine ⟨i, rfl, lt_of_get he, i, rfl, by rw [ee]; exact hc, fun H' R' f => ?_⟩
  rw [ee] at R' ⊢
  obtain ⟨k1, k2, k3⟩ := takeM_ok R.ok he
  refine hQ e (mem_iff_get.mpr ⟨i, he⟩) hc _ H' ⟨?_, k1⟩ k2 k3 f
  have : wt (takeM t s i).1 = wt s.1 - e.2.1 := by
    have := wt_perm k2
    rw [wt_cons] at this
    omega
  rw [this]
  exact R'
theorem hTop {K : PySem.W.Frag} {t : Bool} {a : PA} {H : Hp} {s : Sx} {Q : VK} {E : XK} (R : PAt K t a H s)
    (hE : s.1 = [] → ∀ H', Same H H' → E (.ref (He.ga K "Empty")) none H')
    (hQ : ∀ e, s.1[0]? = some e → (∀ x ∈ s.1, ah t x.2 e.2 = false) → ∀ H', Same H H' → Q (.ref e.1) H') : spTop K t [.ref a.p] H Q E :=
  ⟨a, s, _, rfl, R.raw, hE, fun e he => hQ e he fun x hx => by
    obtain ⟨i, hi⟩ := mem_iff_get.mp hx
    exact R.ok.fm.top he i x hi⟩
theorem hMany {K : PySem.W.Frag} {t : Bool} {a : PA} {H : Hp} {s : Sx} {Q : VK} {E : XK} (R : PAt K t a H s) (q : Q (.int (s.1.length : Int)) H) : spMany K t [.ref a.p] H Q E := ⟨a, s, _, rfl, R.raw, q⟩
theorem hWeight {K : PySem.W.Frag} {t : Bool} {a : PA} {H : Hp} {s : Sx} {Q : VK} {E : XK} (R : PAt K t a H s) (q : Q (.int (wt s.1)) H) : spWeight K t [.ref a.p] H Q E := ⟨a, s, _, rfl, R.raw, q⟩
theorem hTold {K : PySem.W.Frag} {t : Bool} {a : PA} {H : Hp} {s : Sx} {Q : VK} {E : XK} (R : PAt K t a H s) (q : ∀ p, H p = none → Q (.ref p) (upd H p (.lst (rf s.1)))) : spTold K t [.ref a.p] H Q E := ⟨a, s, _, rfl, R.raw, q⟩
theorem pat_nil {K : PySem.W.Frag} {t : Bool} {a : PA} {H : Hp} (R : PRaw K t a H ([], []) 0) : PAt K t a H ([], []) := ⟨R, ⟨⟨List.nodup_nil, List.nodup_nil, fun i e h => by simp at h, fun k h => by cases h⟩, form_nil t⟩⟩
/-- a class that is made: places of the object, its dict, the list, the where -/
theorem hMade {K : PySem.W.Frag} {t : Bool} {p dx : Addr} {H : Hp} {Q : VK} {E : XK} (hp : H p = none) (hdx : H dx = none) (ne : dx ≠ p)
    (q : ∀ (l d : Addr) H', H l = none → H d = none → PAt K t ⟨p, dx, l, d⟩ H' ([], []) → Same H H' → Q .non H') : spPInit K t [.ref p] (upd (upd H dx (.own p)) p (.ins (pC K t) dx [])) Q E := by
  refine ⟨p, dx, rfl, upd_same, fun l d H' hl hd R f => ?_⟩
  have hl0 : H l = none := by
    by_cases e1 : l = p
    · rw [e1]; exact hp
    by_cases e2 : l = dx
    · rw [e2]; exact hdx
    rw [upd_ne e1, upd_ne e2] at hl
    exact hl
  have hd0 : H d = none := by
    by_cases e1 : d = p
    · rw [e1]; exact hp
    by_cases e2 : d = dx
    · rw [e2]; exact hdx
    rw [upd_ne e1, upd_ne e2] at hd
    exact hd
  refine q l d H' hl0 hd0 (pat_nil R) fun b o e => ?_
  have n1 : b ≠ p := fun z => by rw [z, hp] at e; cases e
  have n2 : b ≠ dx := fun z => by rw [z, hdx] at e; cases e
  exact f b o (by rw [upd_ne n1, upd_ne n2]; exact e) n1
end Mp

namespace Mp
open PySem PySem.Spec PyProof.Rows L2
local macro_rules | `(tactic| walk_at "rd") => `(tactic| try simp only [tSeq, tAsg, gName, tVar, tC, tOp, rI0, rI, tTest, tB, tIfS, tNext, tBreak, tCont, tRet, tRetN, tDrop, tCons, tNil, tCallS, tCB, tAnd, tOr, tNot, tAndV, tOrV, tNotV, tUn, rU, tIf, tChain, gCons, gNil, gSub, tFld_r, sFld_r, sFldAug_r, tDGet_r, tDIn_r, tDNotIn_r, sDPut_r, tDPop1_r, tMethF_r, tMakeF, tBits, tSl, tPart, tDNewK, cxOf_K, tBM, tBM0, tTup, tLst, List.length_cons, List.length_nil, Nat.reduceAdd, Nat.zero_add, PySem.sizeLine_eq, Nat.reduceLeDiff,
  List.getElem?_cons_zero, List.getElem?_cons_succ, Option.some.injEq, exists_eq_left', List.set_cons_zero, List.set_cons_succ, exists_eq_left, V.int.injEq, V.bl.injEq, V.ref.injEq, List.cons.injEq, and_true, true_and, and_assoc, exists_and_left, decide_eq_true_eq,
  rEq_int, rNe_int, cdiv_iff, cpow10, Int.reduceLT, Int.reduceLE, Int.reduceToNat, Int.reducePow, Int.reduceNeg, Int.reduceSub, Int.reduceAdd, Int.reduceMul, Nat.reducePow, Nat.reduceLT, Bool.not_eq_true', Bool.false_eq_true, if_true, if_false, not_true_eq_false, not_false_eq_true, ite_not, Bool.not_true, Bool.not_false, reduceCtorEq, ipI, tAug, isi_int_int, isi_int_bool, isi_bool_bool, Bool.true_eq_false, reduceIte])
local macro_rules | `(tactic| walk_at "fo") => `(tactic| try simp only [tFor_enum, tFor_zip, tFor_list, tFor_r1])
local macro_rules | `(tactic| walk_at "mk") => `(tactic| try simp only [tMake, tCallSD, List.nil_append, List.cons_append, List.append_nil])

/-! ### a pile's take, within an except suite; and with exceptions that bear no context -/
section
variable {P : Program} {w : World} {K : PySem.W.Frag} {mg : Str → Option Value} {base : Heap}
theorem okH_Pile_ahead (T : Tx K mg) {fd : FuncData} (F : FnP K "ahead" "Pile.ahead" s_Pile_ahead (He.ma K (He.ga K "Pile") "ahead") fd) : FnHs P w K mg base 1 (He.ma K (He.ga K "Pile") "ahead") P_Pile_ahead (spAhead false) := by
  refine fn_okH F sc_Pile_ahead (fun vs H Q E h => ?_) (fun _ _ _ _ _ _ us hl => match us, hl with | [_, _, _], _ => rfl) (fun cdv A outer s0 H vs Q E pp hot0 hr h => ?_)
  · obtain ⟨z, x, y, rfl, _⟩ := h
    rfl
  · obtain ⟨z, x, y, rfl, hx, hy, hQ⟩ := h
    have hu0 := hr.units0
    refine ⟨_, (pss_one (ps_ret (pe_cmpR (op_ltT hu0) (pv 1) (pv 2) (nomark _)))), ?_⟩
    rw [show start N_Pile_ahead [z, V.ref x.1, V.ref y.1] = [some (z), some (V.ref x.1), some (V.ref y.1)] from rfl]
    walk_at "rd"
    refine ⟨_, _, [x.2.1, x.2.2], [y.2.1, y.2.2], rfl, rfl, SqT.of hx, SqT.of hy, ?_⟩
    rw [lex_ah]
    exact hQ
theorem okH_Pile_lay (T : Tx K mg) (t : Bool) {fd : FuncData} (F : FnP K "lay" "Pile.lay" s_Pile_lay (He.ma K (He.ga K "Pile") "lay") fd) : FnHs P w K mg base 1 (He.ma K (He.ga K "Pile") "lay") P_Pile_lay (spLay K t) := by
  have Pt := pt_of T t
  refine fn_okH F sc_Pile_lay (fun vs H Q E h => ?_) (fun _ _ _ _ _ _ us hl => match us, hl with | [_, _, _], _ => rfl) (fun cdv A outer s0 H vs Q E pp hot0 hr h => ?_)
  · obtain ⟨a, s, hv, k, x, rfl, _⟩ := h
    rfl
  · obtain ⟨a, s, hv, k, x, rfl, R, hk, hl, hx, hQ⟩ := h
    have hu := huH_of hr
    refine ⟨_, (pss_cons (ps_asg (pv 2) (pg_sub (pe_fld (pv 0) rfl) (pv 1) set_list))
    (pss_one (ps_dput hu (pe_fld (pv 0) rfl) (pe_ix ix_tup (pv 2) pe_int (fun _ _ => rfl)) (pv 1) rfl))), ?_⟩
    rw [show start N_Pile_lay [V.ref a.p, V.int (k : Int), V.ref x.1] = [some (V.ref a.p), some (V.int (k : Int)), some (V.ref x.1)] from rfl]
    walk_at "rd"
    refine fldR.mk R.ob Pt.cl Pt.nt (pf_things _ _ _) ?_
    refine ⟨a.l, _, _, k, rfl, rfl, R.li, ixN_of (by rw [List.length_map]; exact hk), ?_⟩
    have ob1 : (upd H a.l (.lst ((s.1.map fun e => V.ref e.1).set k (V.ref x.1)))) a.p = some (.ins (pC K t) a.dx (pf a.l a.d hv)) := by rw [upd_ne R.npl]; exact R.ob
    have di1 : (upd H a.l (.lst ((s.1.map fun e => V.ref e.1).set k (V.ref x.1)))) a.d = some (.dK s.2) := by rw [upd_ne R.nld.symm]; exact R.di
    have nxl : x.1 ≠ a.l := ne_of hx R.li fun z => by cases z
    refine fldR.mk ob1 Pt.cl Pt.nw (pf_where _ _ _) ?_
    refine ixT1 (n := x.2.1) (c := x.2.2) (by rw [upd_ne nxl]; exact hx) ?_
    refine dpR.mk di1 (by omega) ?_
    have fr : FrP a H (upd (upd H a.l (.lst ((s.1.map fun e => V.ref e.1).set k (V.ref x.1)))) a.d (.dK (putK s.2 (Sum.inl x.2.2) (.int (k : Int))))) := fun b o e h1 h2 h3 => by rw [upd_ne h3, upd_ne h2]; exact e
    refine hQ _ ⟨by rw [upd_ne R.npd]; exact ob1, ?_, upd_same, fun e he => ?_⟩ fr
    · show _ = some (HO.lst ((s.1.set k x).map fun e => V.ref e.1))
      rw [upd_ne R.nld, upd_same, List.map_set]
    · have he : e ∈ s.1.set k x := he
      rcases List.mem_or_eq_of_mem_set he with z | z
      · exact R.tup fr (R.tu e z)
      · subst z; exact R.tup fr hx
theorem okH_Pile_rise (T : Tx K mg) (t : Bool) (F_ahead : FnHs P w K mg base 1 (pAh K t) P_Pile_ahead (spAhead t)) (F_lay : FnHs P w K mg base 1 (He.ma K (He.ga K "Pile") "lay") P_Pile_lay (spLay K t)) {fd : FuncData} (F : FnP K "rise" "Pile.rise" s_Pile_rise (He.ma K (He.ga K "Pile") "rise") fd) : FnHs P w K mg base 2 (He.ma K (He.ga K "Pile") "rise") P_Pile_rise (spRise K t) := by
  have Pt := pt_of T t
  refine fn_okH F sc_Pile_rise (fun vs H Q E h => ?_) (fun _ _ _ _ _ _ us hl => match us, hl with | [_, _], _ => rfl) (fun cdv A outer s0 H vs Q E pp hot0 hr h => ?_)
  · obtain ⟨a, s, hv, k, rfl, _⟩ := h
    rfl
  · obtain ⟨a, s, hv, k, rfl, R, hk, hl, hQ⟩ := h
    refine ⟨_, (pss_cons (ps_set (i := 2) sc_Pile_rise.nd rfl (Or.inl rfl) (pe_ix ix_list (pe_fld (pv 0) rfl) (pv 1) (fun _ _ => rfl)))
    (pss_cons (ps_while PassesOwn.never (PW.pt (pw_and (pt_cmpR op_gt (pv 1) pe_int (nomark _)) (pw_and1 (pt_val (pe_methFH (pv 0) Pt.cl Pt.m_ahead F_ahead hr ⟨pp, hot0, List.mem_singleton.mpr rfl⟩ (fun _ => nopass) (pa_cons (pv 2) (pa_cons (pe_ix ix_list (pe_fld (pv 0) rfl) (pe_op op_fdiv (pe_op op_sub (pv 1) pe_int) pe_int) (fun _ _ => rfl)) pa_nil))))))) (pss_cons (ps_expr (pe_methFH (pv 0) Pt.cl Pt.m_lay F_lay hr ⟨pp, hot0, List.mem_singleton.mpr rfl⟩ (fun _ => nopass) (pa_cons (pv 1) (pa_cons (pe_ix ix_list (pe_fld (pv 0) rfl) (pe_op op_fdiv (pe_op op_sub (pv 1) pe_int) pe_int) (fun _ _ => rfl)) pa_nil))))
    (pss_one (ps_set (i := 1) sc_Pile_rise.nd rfl (Or.inl rfl) (pe_op op_fdiv (pe_op op_sub (pv 1) pe_int) pe_int)))))
    (pss_one (ps_expr (pe_methFH (pv 0) Pt.cl Pt.m_lay F_lay hr ⟨pp, hot0, List.mem_singleton.mpr rfl⟩ (fun _ => nopass) (pa_cons (pv 1) (pa_cons (pv 2) pa_nil))))))), ?_⟩
    rw [show start N_Pile_rise [V.ref a.p, V.int (k : Int)] = [some (V.ref a.p), some (V.int (k : Int)), none] from rfl]
    walk_at "rd"
    refine fldR.mk R.ob Pt.cl Pt.nt (pf_things _ _ _) ?_
    refine ixL_mk (SqL.of R.li) (at_of (j := k) rfl (by rw [List.getElem?_map, gE_some hk]; rfl)) ?_
    have hx : gE s.1 k ∈ s.1 := gE_mem hk
    have hx := R.tu _ hx
    revert hx hQ
    generalize gE s.1 k = x
    intro hQ hx
    refine ⟨RiseW K t a hv x H (riseM t x s k).1, ⟨k, s, rfl, R, hx, hk, hl, FrP.refl a H, rfl⟩, ?_⟩
    rintro m σ H1 ⟨s1, rfl, R1, hx1, hk1, hl1, fr1, e1⟩
    -- what is done where the loop ends
    have last : ¬ (0 < m ∧ ah t x.2 (gE s1.1 ((m - 1) / 2)).2 = true) → metR (pC K t) "lay" (V.ref a.p) H1 (spLay K t [V.ref a.p, V.int (m : Int), V.ref x.1] H1 (fun _ H' => Q V.non H') E0) := fun c => by
      refine metR.mk R1.ob (pf_no _ _ _ (by decide +kernel) (by decide +kernel) (by decide +kernel)) ?_
      refine ⟨a, s1, hv, m, x, rfl, R1, hk1, by omega, hx1, fun H2 R2 f2 => ?_⟩
      refine hQ H2 ?_ (fr1.trans f2)
      rw [← e1, riseM, dif_neg c]
      exact R2
    walk_at "rd"
    by_cases c1 : (0 : Int) < (m : Int)
    · rw [if_pos c1]
      have c1' : 0 < m := by omega
      have hp : (m - 1) / 2 < s1.1.length := by omega
      refine metR.mk R1.ob (pf_no _ _ _ (by decide +kernel) (by decide +kernel) (by decide +kernel)) ?_
      refine fldR.mk R1.ob Pt.cl Pt.nt (pf_things _ _ _) ?_
      refine ixL_mk (SqL.of R1.li) (at_of (j := (m - 1) / 2) (half_up c1') (by rw [List.getElem?_map, gE_some hp]; rfl)) ?_
      have hy := R1.tu _ (gE_mem hp)
      refine ⟨_, x, gE s1.1 ((m - 1) / 2), rfl, hx1, hy, ?_⟩
      refine ⟨_, rfl, ?_⟩
      by_cases c2 : ah t x.2 (gE s1.1 ((m - 1) / 2)).2 = true
      · rw [c2]
        refine iteT ?_
        refine ⟨fun σ' H' => ∃ m', m' < m ∧ RiseW K t a hv x H (riseM t x s k).1 m' σ' H', fun σ' H' h => h, ?_⟩
        walk_at "rd"
        refine metR.mk R1.ob (pf_no _ _ _ (by decide +kernel) (by decide +kernel) (by decide +kernel)) ?_
        refine fldR.mk R1.ob Pt.cl Pt.nt (pf_things _ _ _) ?_
        refine ixL_mk (SqL.of R1.li) (at_of (j := (m - 1) / 2) (half_up c1') (by rw [List.getElem?_map, gE_some hp]; rfl)) ?_
        refine ⟨a, s1, hv, m, gE s1.1 ((m - 1) / 2), rfl, R1, hk1, by omega, hy, fun H2 R2 f2 => ?_⟩
        have := layM_kv s1 m (gE s1.1 ((m - 1) / 2))
        refine ⟨(m - 1) / 2, by omega, layM s1 m (gE s1.1 ((m - 1) / 2)), by rw [half_up c1'], R2, R1.tup f2 hx1, by rw [layM_len]; exact hp, by omega, fr1.trans f2, ?_⟩
        rw [← e1]
        conv => rhs; rw [riseM, dif_pos ⟨c1', c2⟩]
      · have c2' : ah t x.2 (gE s1.1 ((m - 1) / 2)).2 = false := by simpa using c2
        rw [c2']
        refine iteF ?_
        exact last fun h => c2 h.2
    · rw [if_neg c1]
      exact last fun h => c1 (by omega)
theorem okH_Pile_sink (T : Tx K mg) (t : Bool) (F_ahead : FnHs P w K mg base 1 (pAh K t) P_Pile_ahead (spAhead t)) (F_lay : FnHs P w K mg base 1 (He.ma K (He.ga K "Pile") "lay") P_Pile_lay (spLay K t)) {fd : FuncData} (F : FnP K "sink" "Pile.sink" s_Pile_sink (He.ma K (He.ga K "Pile") "sink") fd) : FnHs P w K mg base 2 (He.ma K (He.ga K "Pile") "sink") P_Pile_sink (spSink K t) := by
  have Pt := pt_of T t
  refine fn_okH F sc_Pile_sink (fun vs H Q E h => ?_) (fun _ _ _ _ _ _ us hl => match us, hl with | [_, _], _ => rfl) (fun cdv A outer s0 H vs Q E pp hot0 hr h => ?_)
  · obtain ⟨a, s, hv, k, rfl, _⟩ := h
    rfl
  · obtain ⟨a, s, hv, k, rfl, R, hk, hl, hQ⟩ := h
    refine ⟨_, (pss_cons (ps_set (i := 2) sc_Pile_sink.nd rfl (Or.inl rfl) (pe_ix ix_list (pe_fld (pv 0) rfl) (pv 1) (fun _ _ => rfl)))
    (pss_cons (ps_while PassesOwn.never (pt_cmpR op_lt (pe_op op_add (pe_op op_mul pe_int (pv 1)) pe_int) (pe_callB call_len_seq rfl T.z_len PySem.boot_len (pa_cons (pe_fld (pv 0) rfl) pa_nil)) (nomark _)) (pss_cons (ps_set (i := 3) sc_Pile_sink.nd rfl (Or.inl rfl) (pe_op op_add (pe_op op_mul pe_int (pv 1)) pe_int))
    (pss_cons (ps_if (PW.pt (pw_and (pt_cmpR op_lt (pe_op op_add (pv 3) pe_int) (pe_callB call_len_seq rfl T.z_len PySem.boot_len (pa_cons (pe_fld (pv 0) rfl) pa_nil)) (nomark _)) (pw_and1 (pt_val (pe_methFH (pv 0) Pt.cl Pt.m_ahead F_ahead hr ⟨pp, hot0, List.mem_singleton.mpr rfl⟩ (fun _ => nopass) (pa_cons (pe_ix ix_list (pe_fld (pv 0) rfl) (pe_op op_add (pv 3) pe_int) (fun _ _ => rfl)) (pa_cons (pe_ix ix_list (pe_fld (pv 0) rfl) (pv 3) (fun _ _ => rfl)) pa_nil))))))) (pss_one (ps_aug (i := 3) sc_Pile_sink.nd rfl (Or.inl rfl) pe_int ip_add)) pss_nil)
    (pss_cons (ps_if (pt_not (pt_val (pe_methFH (pv 0) Pt.cl Pt.m_ahead F_ahead hr ⟨pp, hot0, List.mem_singleton.mpr rfl⟩ (fun _ => nopass) (pa_cons (pe_ix ix_list (pe_fld (pv 0) rfl) (pv 3) (fun _ _ => rfl)) (pa_cons (pv 2) pa_nil))))) (pss_one ps_break) pss_nil)
    (pss_cons (ps_expr (pe_methFH (pv 0) Pt.cl Pt.m_lay F_lay hr ⟨pp, hot0, List.mem_singleton.mpr rfl⟩ (fun _ => nopass) (pa_cons (pv 1) (pa_cons (pe_ix ix_list (pe_fld (pv 0) rfl) (pv 3) (fun _ _ => rfl)) pa_nil))))
    (pss_one (ps_set (i := 1) sc_Pile_sink.nd rfl (Or.inl rfl) (pv 3))))))))
    (pss_one (ps_expr (pe_methFH (pv 0) Pt.cl Pt.m_lay F_lay hr ⟨pp, hot0, List.mem_singleton.mpr rfl⟩ (fun _ => nopass) (pa_cons (pv 1) (pa_cons (pv 2) pa_nil))))))), ?_⟩
    rw [show start N_Pile_sink [V.ref a.p, V.int (k : Int)] = [some (V.ref a.p), some (V.int (k : Int)), none, none] from rfl]
    walk_at "rd"
    refine fldR.mk R.ob Pt.cl Pt.nt (pf_things _ _ _) ?_
    refine ixL_mk (SqL.of R.li) (at_of (j := k) rfl (by rw [List.getElem?_map, gE_some hk]; rfl)) ?_
    have hx : gE s.1 k ∈ s.1 := gE_mem hk
    have hx := R.tu _ hx
    revert hx hQ
    generalize gE s.1 k = x
    intro hQ hx
    refine ⟨SinkW K t a hv x H (sinkM t x s k), ⟨_, k, s, none, rfl, rfl, R, hx, hk, by omega, FrP.refl a H, rfl⟩, ?_⟩
    rintro m σ H1 ⟨k1, s1, v, rfl, rfl, R1, hx1, hk1, hl1, fr1, e1⟩
    -- what is done where the loop ends
    have last : ∀ H2, H2 = H1 → ¬ (2 * k1 + 1 < s1.1.length ∧ ah t (gE s1.1 (pick t s1.1 k1)).2 x.2 = true) → metR (pC K t) "lay" (V.ref a.p) H2 (spLay K t [V.ref a.p, V.int (k1 : Int), V.ref x.1] H2 (fun _ H' => Q V.non H') E0) := fun H2 e2 c => by
      subst e2
      refine metR.mk R1.ob (pf_no _ _ _ (by decide +kernel) (by decide +kernel) (by decide +kernel)) ?_
      refine ⟨a, s1, hv, k1, x, rfl, R1, hk1, by omega, hx1, fun H3 R2 f2 => ?_⟩
      refine hQ H3 ?_ (fr1.trans f2)
      rw [← e1, sinkM, dif_neg c]
      exact R2
    -- the turn's second half: the thing below is known
    have down : ∀ (q : Nat) (qi : Int) (v2 : Option V), qi = (q : Int) → 2 * k1 + 1 < s1.1.length → q = pick t s1.1 k1 → ah t (gE s1.1 q).2 x.2 = true →
        spLay K t [V.ref a.p, V.int (k1 : Int), V.ref (gE s1.1 q).1] H1 (fun _ H' => ∃ m', m' < s1.1.length - k1 ∧ SinkW K t a hv x H (sinkM t x s k) m' [some (.ref a.p), some (.int qi), some (.ref x.1), v2] H') E0 := fun q qi v2 hi c1 hq c2 => by
      obtain ⟨g1, g2, g3⟩ := pick_gt t s1.1 k1
      have hp : q < s1.1.length := by rw [hq]; exact pick_lt c1
      have hy := R1.tu _ (gE_mem hp)
      refine ⟨a, s1, hv, k1, gE s1.1 q, rfl, R1, hk1, by omega, hy, fun H2 R2 f2 => ?_⟩
      have := layM_kv s1 k1 (gE s1.1 q)
      have := layM_len s1 k1 (gE s1.1 q)
      refine ⟨s1.1.length - q, by omega, q, layM s1 k1 (gE s1.1 q), v2, by rw [hi], by rw [layM_len], R2, R1.tup f2 hx1, by omega, by omega, fr1.trans f2, ?_⟩
      rw [← e1]
      conv => rhs; rw [sinkM, dif_pos ⟨c1, by rw [← hq]; exact c2⟩]
      rw [hq]
    walk_at "rd"
    have two : CMul 2 (k1 : Int) := .inl ⟨by decide, by decide⟩
    have noA : (pf a.l a.d hv).lookup ("ahead" : Str) = none := pf_no _ _ _ (by decide +kernel) (by decide +kernel) (by decide +kernel)
    have noL : (pf a.l a.d hv).lookup ("lay" : Str) = none := pf_no _ _ _ (by decide +kernel) (by decide +kernel) (by decide +kernel)
    have le : (s1.1.map fun e => V.ref e.1).length = s1.1.length := List.length_map _
    refine ⟨two, fldR.mk R1.ob Pt.cl Pt.nt (pf_things _ _ _) ⟨a.l, rfl, _, .inl (SqL.of R1.li), ?_⟩⟩
    refine ite2 (fun c1 => ?_) (fun c1 => ?_)
    · have c1 : 2 * k1 + 1 < s1.1.length := by omega
      refine ⟨fun σ' H' => ∃ m', m' < s1.1.length - k1 ∧ SinkW K t a hv x H (sinkM t x s k) m' σ' H', fun σ' H' h => h, ?_⟩
      have gt1 : (s1.1.map fun e => V.ref e.1)[2 * k1 + 1]? = some (V.ref (gE s1.1 (2 * k1 + 1)).1) := by rw [List.getElem?_map, gE_some c1]; rfl
      have ht1 := R1.tu _ (gE_mem c1)
      have at1 : atI (s1.1.map fun e => V.ref e.1) (2 * (k1 : Int) + 1) = some (V.ref (gE s1.1 (2 * k1 + 1)).1) := at_of (j := 2 * k1 + 1) (by omega) gt1
      -- the turn's end: q is what pick chooses
      have stop : ∀ q : Nat, q = pick t s1.1 k1 → ah t (gE s1.1 q).2 x.2 = false → ¬ (2 * k1 + 1 < s1.1.length ∧ ah t (gE s1.1 (pick t s1.1 k1)).2 x.2 = true) := fun q hq hf => by
        rw [← hq, hf]
        rintro ⟨_, z⟩
        cases z
      refine ⟨two, fldR.mk R1.ob Pt.cl Pt.nt (pf_things _ _ _) ⟨a.l, rfl, _, .inl (SqL.of R1.li), ?_⟩⟩
      refine ite2 (fun c2 => ?_) (fun c2 => ?_)
      · have c2 : 2 * k1 + 1 + 1 < s1.1.length := by omega
        have gt2 : (s1.1.map fun e => V.ref e.1)[2 * k1 + 1 + 1]? = some (V.ref (gE s1.1 (2 * k1 + 1 + 1)).1) := by rw [List.getElem?_map, gE_some c2]; rfl
        have ht2 := R1.tu _ (gE_mem c2)
        have at2 : atI (s1.1.map fun e => V.ref e.1) (2 * (k1 : Int) + 1 + 1) = some (V.ref (gE s1.1 (2 * k1 + 1 + 1)).1) := at_of (j := 2 * k1 + 1 + 1) (by omega) gt2
        refine metR.mk R1.ob noA (fldR.mk R1.ob Pt.cl Pt.nt (pf_things _ _ _) (ixL_mk (SqL.of R1.li) at2 (fldR.mk R1.ob Pt.cl Pt.nt (pf_things _ _ _) (ixL_mk (SqL.of R1.li) at1 ?_))))
        refine ⟨_, gE s1.1 (2 * k1 + 1 + 1), gE s1.1 (2 * k1 + 1), rfl, ht2, ht1, _, rfl, ?_⟩
        by_cases c3 : ah t (gE s1.1 (2 * k1 + 1 + 1)).2 (gE s1.1 (2 * k1 + 1)).2 = true
        · rw [c3]
          refine iteT ?_
          have hq : 2 * k1 + 1 + 1 = pick t s1.1 k1 := (if_pos ⟨c2, c3⟩).symm
          refine metR.mk R1.ob noA (fldR.mk R1.ob Pt.cl Pt.nt (pf_things _ _ _) (ixL_mk (SqL.of R1.li) at2 ?_))
          refine ⟨_, gE s1.1 (2 * k1 + 1 + 1), x, rfl, ht2, hx1, _, rfl, ?_⟩
          cases c4 : ah t (gE s1.1 (2 * k1 + 1 + 1)).2 x.2 with
          | false =>
            refine (if_pos rfl).mpr ?_
            exact last _ rfl (stop _ hq c4)
          | true =>
            refine (if_neg (by decide)).mpr ?_
            walk_at "rd"
            exact metR.mk R1.ob noL (fldR.mk R1.ob Pt.cl Pt.nt (pf_things _ _ _) (ixL_mk (SqL.of R1.li) at2 (down (2 * k1 + 1 + 1) (2 * (k1 : Int) + 1 + 1) (some (V.int (2 * (k1 : Int) + 1 + 1))) (by omega) c1 hq c4)))
        · have c3' : ah t (gE s1.1 (2 * k1 + 1 + 1)).2 (gE s1.1 (2 * k1 + 1)).2 = false := by simpa using c3
          rw [c3']
          refine iteF ?_
          have hq : 2 * k1 + 1 = pick t s1.1 k1 := (if_neg fun h => c3 h.2).symm
          refine metR.mk R1.ob noA (fldR.mk R1.ob Pt.cl Pt.nt (pf_things _ _ _) (ixL_mk (SqL.of R1.li) at1 ?_))
          refine ⟨_, gE s1.1 (2 * k1 + 1), x, rfl, ht1, hx1, _, rfl, ?_⟩
          cases c4 : ah t (gE s1.1 (2 * k1 + 1)).2 x.2 with
          | false =>
            refine (if_pos rfl).mpr ?_
            exact last _ rfl (stop _ hq c4)
          | true =>
            refine (if_neg (by decide)).mpr ?_
            walk_at "rd"
            exact metR.mk R1.ob noL (fldR.mk R1.ob Pt.cl Pt.nt (pf_things _ _ _) (ixL_mk (SqL.of R1.li) at1 (down (2 * k1 + 1) (2 * (k1 : Int) + 1) (some (V.int (2 * (k1 : Int) + 1))) (by omega) c1 hq c4)))
      · have hq : 2 * k1 + 1 = pick t s1.1 k1 := (if_neg fun h => c2 (by have := h.1; omega)).symm
        refine metR.mk R1.ob noA (fldR.mk R1.ob Pt.cl Pt.nt (pf_things _ _ _) (ixL_mk (SqL.of R1.li) at1 ?_))
        refine ⟨_, gE s1.1 (2 * k1 + 1), x, rfl, ht1, hx1, _, rfl, ?_⟩
        cases c4 : ah t (gE s1.1 (2 * k1 + 1)).2 x.2 with
        | false =>
          refine (if_pos rfl).mpr ?_
          exact last _ rfl (stop _ hq c4)
        | true =>
          refine (if_neg (by decide)).mpr ?_
          walk_at "rd"
          exact metR.mk R1.ob noL (fldR.mk R1.ob Pt.cl Pt.nt (pf_things _ _ _) (ixL_mk (SqL.of R1.li) at1 (down (2 * k1 + 1) (2 * (k1 : Int) + 1) (some (V.int (2 * (k1 : Int) + 1))) (by omega) c1 hq c4)))
    · exact last _ rfl fun h => c1 (by omega)
theorem okH_Pile_take (T : Tx K mg) (t : Bool) (F_lay : FnHs P w K mg base 1 (He.ma K (He.ga K "Pile") "lay") P_Pile_lay (spLay K t)) (F_rise : FnHs P w K mg base 2 (He.ma K (He.ga K "Pile") "rise") P_Pile_rise (spRise K t)) (F_sink : FnHs P w K mg base 2 (He.ma K (He.ga K "Pile") "sink") P_Pile_sink (spSink K t)) {fd : FuncData} (F : FnP K "take" "Pile.take" s_Pile_take (He.ma K (He.ga K "Pile") "take") fd) : FnHs P w K mg base 3 (He.ma K (He.ga K "Pile") "take") P_Pile_take (spTake K t) := by
  have Pt := pt_of T t
  refine fn_okHX F sc_Pile_take (fun vs H Q E h => ?_) (fun _ _ _ _ _ _ us hl => match us, hl with | [_, _], _ => rfl) (fun cdv A outer s0 H vs Q E pp hot0 hr h => ?_)
  · obtain ⟨a, s, hv, c, rfl, _⟩ := h
    rfl
  · obtain ⟨a, s, hv, c, rfl, R, hl, hE, hQ⟩ := h
    have hu := huH_of hr
    refine ⟨_, (pss_cons (ps_if (pt_cmp (pc_dnotin hu (pv 1) (pe_fld (pv 0) rfl))) (pss_one (L2H.ps_raiseH ⟨pp, hot0, List.mem_singleton.mpr rfl⟩ (takes_of rfl rfl rfl rfl) (L2N.pmk_own PySem.F.excBase_ValueError T.xc_NoThing.1 T.g_NoThing T.xc_NoThing.2.1 (raises_own T.xc_NoThing.2.2.1 T.xc_NoThing.2.2.2) rfl))) pss_nil)
    (pss_cons (ps_set (i := 2) sc_Pile_take.nd rfl (Or.inl rfl) (pe_dpop1 (pe_fld (pv 0) rfl) (pv 1) ⟨by rfl, by rfl, by rfl, by rfl⟩))
    (pss_cons (ps_set (i := 3) sc_Pile_take.nd rfl (Or.inl rfl) (pe_ix ix_list (pe_fld (pv 0) rfl) (pv 2) (fun _ _ => rfl)))
    (pss_cons (ps_set (i := 4) sc_Pile_take.nd rfl (Or.inl rfl) (pe_bm0 PySem.F.plainAttrs_list PySem.F.slot_list_pop PySem.F.type_list_pop mt_pop (pe_fld (pv 0) rfl)))
    (pss_cons (ps_if (pt_cmpR op_lt (pv 2) (pe_callB call_len_seq rfl T.z_len PySem.boot_len (pa_cons (pe_fld (pv 0) rfl) pa_nil)) (nomark _)) (pss_cons (ps_expr (pe_methFH (pv 0) Pt.cl Pt.m_lay F_lay hr ⟨pp, hot0, List.mem_singleton.mpr rfl⟩ (fun _ => nopass) (pa_cons (pv 2) (pa_cons (pv 4) pa_nil))))
    (pss_cons (ps_expr (pe_methFH (pv 0) Pt.cl Pt.m_rise F_rise hr ⟨pp, hot0, List.mem_singleton.mpr rfl⟩ (fun _ => nopass) (pa_cons (pv 2) pa_nil)))
    (pss_one (ps_expr (pe_methFH (pv 0) Pt.cl Pt.m_sink F_sink hr ⟨pp, hot0, List.mem_singleton.mpr rfl⟩ (fun _ => nopass) (pa_cons (pe_dget hu (pe_fld (pv 0) rfl) (pe_ix ix_tup (pv 4) pe_int (fun _ _ => rfl)) (fun _ _ => rfl)) pa_nil)))))) pss_nil)
    (pss_cons (ps_fldaug (pv 0) (pe_ix ix_tup (pv 3) pe_int (fun _ _ => rfl)) in_sub)
    (pss_one (ps_ret (pv 3))))))))), ?_⟩
    rw [show start N_Pile_take [V.ref a.p, V.int c] = [some (V.ref a.p), some (V.int c), none, none, none] from rfl]
    walk_at "rd"
    refine fldR.mk R.ob Pt.cl Pt.nw (pf_where _ _ _) ?_
    refine diR.mk R.di ?_
    cases hv0 : valV s.2 (Sum.inl c : Key) with
    | none => exact (if_pos rfl).mpr (hE hv0)
    | some v =>
      refine (if_neg (by simp)).mpr ?_
      obtain ⟨k, rfl, hk, _, _, hc, hQ⟩ := hQ v hv0
      refine fldR.mk R.ob Pt.cl Pt.nw (pf_where _ _ _) ?_
      refine ⟨a.d, rfl, .inl ⟨_, .inl R.di⟩, _, Sum.inl c, _, R.di, rfl, hv0, ?_⟩
      have f1 : FrP a H (upd H a.d (.dK (dropK s.2 (Sum.inl c)))) := fun b o e h1 h2 h3 => by rw [upd_ne h3]; exact e
      have R1 : PRaw K t a (upd H a.d (.dK (dropK s.2 (Sum.inl c)))) (s.1, dropK s.2 (Sum.inl c)) hv := ⟨by rw [upd_ne R.npd]; exact R.ob, by rw [upd_ne R.nld]; exact R.li, upd_same, fun e he => R.tup f1 (R.tu e he)⟩
      have hd := len_dropK s.2 (Sum.inl c)
      revert R1 f1
      generalize upd H a.d (.dK (dropK s.2 (Sum.inl c))) = H1
      intro f1 R1
      refine fldR.mk R1.ob Pt.cl Pt.nt (pf_things _ _ _) ?_
      refine ixL_mk (SqL.of R1.li) (at_of (j := k) rfl (by rw [List.getElem?_map, gE_some hk]; rfl)) ?_
      have hy := R1.tu _ (gE_mem (l := s.1) hk)
      refine fldR.mk R1.ob Pt.cl Pt.nt (pf_things _ _ _) ⟨.inl ⟨rfl, _, SqL.of R1.li⟩, a.l, _, V.ref (gE s.1 (s.1.length - 1)).1, rfl, rfl, R1.li, by rw [List.length_map, List.getElem?_map, gE_some (l := s.1) (i := s.1.length - 1) (by omega)]; rfl, ?_⟩
      have hz := R1.tu _ (gE_mem (l := s.1) (i := s.1.length - 1) (by omega))
      have f2 : FrP a H (upd H1 a.l (.lst (s.1.map fun e => V.ref e.1).dropLast)) := fun b o e h1 h2 h3 => by rw [upd_ne h2]; exact f1 b o e h1 h2 h3
      have g2 : FrP a H1 (upd H1 a.l (.lst (s.1.map fun e => V.ref e.1).dropLast)) := fun b o e h1 h2 h3 => by rw [upd_ne h2]; exact e
      have R2 : PRaw K t a (upd H1 a.l (.lst (s.1.map fun e => V.ref e.1).dropLast)) (s.1.dropLast, dropK s.2 (Sum.inl c)) hv :=
        ⟨by rw [upd_ne R1.npl]; exact R1.ob, by rw [upd_same, List.dropLast_eq_take, List.dropLast_eq_take, List.map_take, List.length_map], by rw [upd_ne R1.nld.symm]; exact R1.di, fun e he => R1.tup g2 (R1.tu e (List.dropLast_subset _ he))⟩
      have hy := R1.tup g2 hy
      have hz := R1.tup g2 hz
      revert R2 f2 hy hz
      generalize upd H1 a.l (.lst (s.1.map fun e => V.ref e.1).dropLast) = H2
      intro f2 R2 hy hz
      have fin : ∀ H3, PRaw K t a H3 (takeM t s k) hv → FrP a H2 H3 → augR K "heavy" (V.ref a.p) H3 (fun v H1 R => rIxT K (V.ref (gE s.1 k).1) (V.int 0) H1 fun y H2 => rSub v y H2 R) (tRet (tVar 3) { nx := fun x H' => Q V.non H', rt := Q }
            [some (V.ref a.p), some (V.int c), some (V.int (k : Int)), some (V.ref (gE s.1 k).1), some (V.ref (gE s.1 (s.1.length - 1)).1)]) := fun H3 R3 f3 => by
        refine augR.mk R3.ob Pt.cl Pt.nh (pf_heavy _ _ _) ?_
        refine ixT0 (n := (gE s.1 k).2.1) (c := (gE s.1 k).2.2) (R2.tup f3 hy) ?_
        refine ⟨hv, (gE s.1 k).2.1, rfl, rfl, a.dx, _, R3.ob, by show 3 < 1000; decide, ?_⟩
        rw [pf_put]
        have f4 : FrP a H3 (upd H3 a.p (.ins (pC K t) a.dx (pf a.l a.d (hv - (gE s.1 k).2.1)))) := fun b o e h1 h2 h3 => by rw [upd_ne h1]; exact e
        refine ⟨_, rfl, hQ _ ⟨upd_same, by rw [upd_ne R3.npl.symm]; exact R3.li, by rw [upd_ne R3.npd.symm]; exact R3.di, fun e he => R3.tup f4 (R3.tu e he)⟩ ((f2.trans f3).trans f4)⟩
      have el : (List.map (fun e : En => V.ref e.1) (s.1.dropLast, dropK s.2 (Sum.inl c)).1).length = s.1.length - 1 := by rw [List.length_map]; exact List.length_dropLast
      have el2 : s.1.dropLast.length = s.1.length - 1 := List.length_dropLast
      refine fldR.mk R2.ob Pt.cl Pt.nt (pf_things _ _ _) ⟨a.l, rfl, _, .inl (SqL.of R2.li), (k : Int), rfl, ite2 (fun c1 => ?_) (fun c1 => ?_)⟩
      · have c1 : k < s.1.dropLast.length := by omega
        have noL : (pf a.l a.d hv).lookup ("lay" : Str) = none := pf_no _ _ _ (by decide +kernel) (by decide +kernel) (by decide +kernel)
        have noR : (pf a.l a.d hv).lookup ("rise" : Str) = none := pf_no _ _ _ (by decide +kernel) (by decide +kernel) (by decide +kernel)
        have noS : (pf a.l a.d hv).lookup ("sink" : Str) = none := pf_no _ _ _ (by decide +kernel) (by decide +kernel) (by decide +kernel)
        have et : takeM t s k = sinkM t (gE s.1 (s.1.length - 1)) (riseM t (gE s.1 (s.1.length - 1)) (layM (s.1.dropLast, dropK s.2 (Sum.inl c)) k (gE s.1 (s.1.length - 1))) k).1 (riseM t (gE s.1 (s.1.length - 1)) (layM (s.1.dropLast, dropK s.2 (Sum.inl c)) k (gE s.1 (s.1.length - 1))) k).2 := by
          unfold takeM
          rw [hc]
          exact if_pos c1
        rw [et] at fin
        revert fin hz
        generalize gE s.1 (s.1.length - 1) = x
        intro hz fin
        refine metR.mk R2.ob noL ⟨a, _, hv, k, x, rfl, R2, c1, by show (dropK s.2 (Sum.inl c)).length < 1000000; omega, hz, fun H3 R3 f3 => ?_⟩
        have ek : gE (layM (s.1.dropLast, dropK s.2 (Sum.inl c)) k x).1 k = x := gE_of (List.getElem?_set_self c1)
        have ll := layM_kv (s.1.dropLast, dropK s.2 (Sum.inl c)) k x
        have ll : (layM (s.1.dropLast, dropK s.2 (Sum.inl c)) k x).2.length ≤ (dropK s.2 (Sum.inl c)).length + 1 := ll
        have l3 : k < (layM (s.1.dropLast, dropK s.2 (Sum.inl c)) k x).1.length := by rw [layM_len]; exact c1
        have l4 : (layM (s.1.dropLast, dropK s.2 (Sum.inl c)) k x).1.length = s.1.dropLast.length := layM_len _ _ _
        refine metR.mk R3.ob noR ⟨a, _, hv, k, rfl, R3, l3, by omega, fun H4 R4 f4 => ?_⟩
        rw [ek] at R4
        obtain ⟨r1, r2, r3, r4⟩ := riseM_len t x k (layM (s.1.dropLast, dropK s.2 (Sum.inl c)) k x)
        have r5 := riseM_get t x k (layM (s.1.dropLast, dropK s.2 (Sum.inl c)) k x) l3
        refine metR.mk R4.ob noS (fldR.mk R4.ob Pt.cl Pt.nw (pf_where _ _ _) (ixT1 (n := x.2.1) (c := x.2.2) (R2.tup (f3.trans f4) hz) (dgR.mk R4.di r4 ?_)))
        refine ⟨a, _, hv, _, rfl, R4, lt_of_get r5, by omega, fun H5 R5 f5 => ?_⟩
        rw [gE_of r5] at R5
        exact fin H5 R5 ((f3.trans f4).trans f5)
      · have et : takeM t s k = (s.1.dropLast, dropK s.2 (Sum.inl c)) := by
          unfold takeM
          rw [hc]
          exact if_neg (by omega)
        rw [et] at fin
        exact fin H2 R2 (FrP.refl a H2)
theorem okN_Pile_take (T : Tx K mg) (t : Bool) (F_lay : Fn P w K mg base 1 (He.ma K (He.ga K "Pile") "lay") P_Pile_lay (spLay K t)) (F_rise : Fn P w K mg base 2 (He.ma K (He.ga K "Pile") "rise") P_Pile_rise (spRise K t)) (F_sink : Fn P w K mg base 2 (He.ma K (He.ga K "Pile") "sink") P_Pile_sink (spSink K t)) {fd : FuncData} (F : FnP K "take" "Pile.take" s_Pile_take (He.ma K (He.ga K "Pile") "take") fd) : FnN P w K mg base 3 (He.ma K (He.ga K "Pile") "take") P_Pile_take (spTake K t) := by
  have Pt := pt_of T t
  refine fn_okN F sc_Pile_take (fun vs H Q E h => ?_) (fun _ _ _ _ _ _ us hl => match us, hl with | [_, _], _ => rfl) (fun cdv A outer s0 H vs Q E hr h => ?_)
  · obtain ⟨a, s, hv, c, rfl, _⟩ := h
    rfl
  · obtain ⟨a, s, hv, c, rfl, R, hl, hE, hQ⟩ := h
    have hu := hu_of hr
    refine ⟨_, (pss_cons (ps_if (pt_cmp (pc_dnotin hu (pv 1) (pe_fld (pv 0) rfl))) (pss_one (L2N.ps_raise rfl (L2N.takes_of rfl rfl rfl rfl) (L2N.pmk_own PySem.F.excBase_ValueError T.xc_NoThing.1 T.g_NoThing T.xc_NoThing.2.1 (raises_own T.xc_NoThing.2.2.1 T.xc_NoThing.2.2.2) rfl))) pss_nil)
    (pss_cons (ps_set (i := 2) sc_Pile_take.nd rfl (Or.inl rfl) (pe_dpop1 (pe_fld (pv 0) rfl) (pv 1) ⟨by rfl, by rfl, by rfl, by rfl⟩))
    (pss_cons (ps_set (i := 3) sc_Pile_take.nd rfl (Or.inl rfl) (pe_ix ix_list (pe_fld (pv 0) rfl) (pv 2) (fun _ _ => rfl)))
    (pss_cons (ps_set (i := 4) sc_Pile_take.nd rfl (Or.inl rfl) (pe_bm0 PySem.F.plainAttrs_list PySem.F.slot_list_pop PySem.F.type_list_pop mt_pop (pe_fld (pv 0) rfl)))
    (pss_cons (ps_if (pt_cmpR op_lt (pv 2) (pe_callB call_len_seq rfl T.z_len PySem.boot_len (pa_cons (pe_fld (pv 0) rfl) pa_nil)) (nomark _)) (pss_cons (ps_expr (pe_methF (pv 0) Pt.cl Pt.m_lay F_lay hr (fun _ => nopass) (pa_cons (pv 2) (pa_cons (pv 4) pa_nil))))
    (pss_cons (ps_expr (pe_methF (pv 0) Pt.cl Pt.m_rise F_rise hr (fun _ => nopass) (pa_cons (pv 2) pa_nil)))
    (pss_one (ps_expr (pe_methF (pv 0) Pt.cl Pt.m_sink F_sink hr (fun _ => nopass) (pa_cons (pe_dget hu (pe_fld (pv 0) rfl) (pe_ix ix_tup (pv 4) pe_int (fun _ _ => rfl)) (fun _ _ => rfl)) pa_nil)))))) pss_nil)
    (pss_cons (ps_fldaug (pv 0) (pe_ix ix_tup (pv 3) pe_int (fun _ _ => rfl)) in_sub)
    (pss_one (ps_ret (pv 3))))))))), ?_⟩
    rw [show start N_Pile_take [V.ref a.p, V.int c] = [some (V.ref a.p), some (V.int c), none, none, none] from rfl]
    walk_at "rd"
    refine fldR.mk R.ob Pt.cl Pt.nw (pf_where _ _ _) ?_
    refine diR.mk R.di ?_
    cases hv0 : valV s.2 (Sum.inl c : Key) with
    | none => exact (if_pos rfl).mpr (hE hv0)
    | some v =>
      refine (if_neg (by simp)).mpr ?_
      obtain ⟨k, rfl, hk, _, _, hc, hQ⟩ := hQ v hv0
      refine fldR.mk R.ob Pt.cl Pt.nw (pf_where _ _ _) ?_
      refine ⟨a.d, rfl, .inl ⟨_, .inl R.di⟩, _, Sum.inl c, _, R.di, rfl, hv0, ?_⟩
      have f1 : FrP a H (upd H a.d (.dK (dropK s.2 (Sum.inl c)))) := fun b o e h1 h2 h3 => by rw [upd_ne h3]; exact e
      have R1 : PRaw K t a (upd H a.d (.dK (dropK s.2 (Sum.inl c)))) (s.1, dropK s.2 (Sum.inl c)) hv := ⟨by rw [upd_ne R.npd]; exact R.ob, by rw [upd_ne R.nld]; exact R.li, upd_same, fun e he => R.tup f1 (R.tu e he)⟩
      have hd := len_dropK s.2 (Sum.inl c)
      revert R1 f1
      generalize upd H a.d (.dK (dropK s.2 (Sum.inl c))) = H1
      intro f1 R1
      refine fldR.mk R1.ob Pt.cl Pt.nt (pf_things _ _ _) ?_
      refine ixL_mk (SqL.of R1.li) (at_of (j := k) rfl (by rw [List.getElem?_map, gE_some hk]; rfl)) ?_
      have hy := R1.tu _ (gE_mem (l := s.1) hk)
      refine fldR.mk R1.ob Pt.cl Pt.nt (pf_things _ _ _) ⟨.inl ⟨rfl, _, SqL.of R1.li⟩, a.l, _, V.ref (gE s.1 (s.1.length - 1)).1, rfl, rfl, R1.li, by rw [List.length_map, List.getElem?_map, gE_some (l := s.1) (i := s.1.length - 1) (by omega)]; rfl, ?_⟩
      have hz := R1.tu _ (gE_mem (l := s.1) (i := s.1.length - 1) (by omega))
      have f2 : FrP a H (upd H1 a.l (.lst (s.1.map fun e => V.ref e.1).dropLast)) := fun b o e h1 h2 h3 => by rw [upd_ne h2]; exact f1 b o e h1 h2 h3
      have g2 : FrP a H1 (upd H1 a.l (.lst (s.1.map fun e => V.ref e.1).dropLast)) := fun b o e h1 h2 h3 => by rw [upd_ne h2]; exact e
      have R2 : PRaw K t a (upd H1 a.l (.lst (s.1.map fun e => V.ref e.1).dropLast)) (s.1.dropLast, dropK s.2 (Sum.inl c)) hv :=
        ⟨by rw [upd_ne R1.npl]; exact R1.ob, by rw [upd_same, List.dropLast_eq_take, List.dropLast_eq_take, List.map_take, List.length_map], by rw [upd_ne R1.nld.symm]; exact R1.di, fun e he => R1.tup g2 (R1.tu e (List.dropLast_subset _ he))⟩
      have hy := R1.tup g2 hy
      have hz := R1.tup g2 hz
      revert R2 f2 hy hz
      generalize upd H1 a.l (.lst (s.1.map fun e => V.ref e.1).dropLast) = H2
      intro f2 R2 hy hz
      have fin : ∀ H3, PRaw K t a H3 (takeM t s k) hv → FrP a H2 H3 → augR K "heavy" (V.ref a.p) H3 (fun v H1 R => rIxT K (V.ref (gE s.1 k).1) (V.int 0) H1 fun y H2 => rSub v y H2 R) (tRet (tVar 3) { nx := fun x H' => Q V.non H', rt := Q }
            [some (V.ref a.p), some (V.int c), some (V.int (k : Int)), some (V.ref (gE s.1 k).1), some (V.ref (gE s.1 (s.1.length - 1)).1)]) := fun H3 R3 f3 => by
        refine augR.mk R3.ob Pt.cl Pt.nh (pf_heavy _ _ _) ?_
        refine ixT0 (n := (gE s.1 k).2.1) (c := (gE s.1 k).2.2) (R2.tup f3 hy) ?_
        refine ⟨hv, (gE s.1 k).2.1, rfl, rfl, a.dx, _, R3.ob, by show 3 < 1000; decide, ?_⟩
        rw [pf_put]
        have f4 : FrP a H3 (upd H3 a.p (.ins (pC K t) a.dx (pf a.l a.d (hv - (gE s.1 k).2.1)))) := fun b o e h1 h2 h3 => by rw [upd_ne h1]; exact e
        refine ⟨_, rfl, hQ _ ⟨upd_same, by rw [upd_ne R3.npl.symm]; exact R3.li, by rw [upd_ne R3.npd.symm]; exact R3.di, fun e he => R3.tup f4 (R3.tu e he)⟩ ((f2.trans f3).trans f4)⟩
      have el : (List.map (fun e : En => V.ref e.1) (s.1.dropLast, dropK s.2 (Sum.inl c)).1).length = s.1.length - 1 := by rw [List.length_map]; exact List.length_dropLast
      have el2 : s.1.dropLast.length = s.1.length - 1 := List.length_dropLast
      refine fldR.mk R2.ob Pt.cl Pt.nt (pf_things _ _ _) ⟨a.l, rfl, _, .inl (SqL.of R2.li), (k : Int), rfl, ite2 (fun c1 => ?_) (fun c1 => ?_)⟩
      · have c1 : k < s.1.dropLast.length := by omega
        have noL : (pf a.l a.d hv).lookup ("lay" : Str) = none := pf_no _ _ _ (by decide +kernel) (by decide +kernel) (by decide +kernel)
        have noR : (pf a.l a.d hv).lookup ("rise" : Str) = none := pf_no _ _ _ (by decide +kernel) (by decide +kernel) (by decide +kernel)
        have noS : (pf a.l a.d hv).lookup ("sink" : Str) = none := pf_no _ _ _ (by decide +kernel) (by decide +kernel) (by decide +kernel)
        have et : takeM t s k = sinkM t (gE s.1 (s.1.length - 1)) (riseM t (gE s.1 (s.1.length - 1)) (layM (s.1.dropLast, dropK s.2 (Sum.inl c)) k (gE s.1 (s.1.length - 1))) k).1 (riseM t (gE s.1 (s.1.length - 1)) (layM (s.1.dropLast, dropK s.2 (Sum.inl c)) k (gE s.1 (s.1.length - 1))) k).2 := by
          unfold takeM
          rw [hc]
          exact if_pos c1
        rw [et] at fin
        revert fin hz
        generalize gE s.1 (s.1.length - 1) = x
        intro hz fin
        refine metR.mk R2.ob noL ⟨a, _, hv, k, x, rfl, R2, c1, by show (dropK s.2 (Sum.inl c)).length < 1000000; omega, hz, fun H3 R3 f3 => ?_⟩
        have ek : gE (layM (s.1.dropLast, dropK s.2 (Sum.inl c)) k x).1 k = x := gE_of (List.getElem?_set_self c1)
        have ll := layM_kv (s.1.dropLast, dropK s.2 (Sum.inl c)) k x
        have ll : (layM (s.1.dropLast, dropK s.2 (Sum.inl c)) k x).2.length ≤ (dropK s.2 (Sum.inl c)).length + 1 := ll
        have l3 : k < (layM (s.1.dropLast, dropK s.2 (Sum.inl c)) k x).1.length := by rw [layM_len]; exact c1
        have l4 : (layM (s.1.dropLast, dropK s.2 (Sum.inl c)) k x).1.length = s.1.dropLast.length := layM_len _ _ _
        refine metR.mk R3.ob noR ⟨a, _, hv, k, rfl, R3, l3, by omega, fun H4 R4 f4 => ?_⟩
        rw [ek] at R4
        obtain ⟨r1, r2, r3, r4⟩ := riseM_len t x k (layM (s.1.dropLast, dropK s.2 (Sum.inl c)) k x)
        have r5 := riseM_get t x k (layM (s.1.dropLast, dropK s.2 (Sum.inl c)) k x) l3
        refine metR.mk R4.ob noS (fldR.mk R4.ob Pt.cl Pt.nw (pf_where _ _ _) (ixT1 (n := x.2.1) (c := x.2.2) (R2.tup (f3.trans f4) hz) (dgR.mk R4.di r4 ?_)))
        refine ⟨a, _, hv, _, rfl, R4, lt_of_get r5, by omega, fun H5 R5 f5 => ?_⟩
        rw [gE_of r5] at R5
        exact fin H5 R5 ((f3.trans f4).trans f5)
      · have et : takeM t s k = (s.1.dropLast, dropK s.2 (Sum.inl c)) := by
          unfold takeM
          rw [hc]
          exact if_neg (by omega)
        rw [et] at fin
        exact fin H2 R2 (FrP.refl a H2)
end
end Mp

namespace Mp
open PySem PySem.Spec PyProof.Rows L2
local macro_rules | `(tactic| walk_at "rd") => `(tactic| try simp only [tSeq, tAsg, gName, tVar, tC, tOp, rI0, rI, tTest, tB, tIfS, tNext, tBreak, tCont, tRet, tRetN, tDrop, tCons, tNil, tCallS, tCB, tAnd, tOr, tNot, tAndV, tOrV, tNotV, tUn, rU, tIf, tChain, gCons, gNil, gSub, tFld_r, sFld_r, sFldAug_r, tDGet_r, tDIn_r, tDNotIn_r, sDPut_r, tDPop1_r, tMethF_r, tMakeF, tBits, tSl, tPart, tDNewK, cxOf_K, tBM, tBM0, tTup, tLst, List.length_cons, List.length_nil, Nat.reduceAdd, Nat.zero_add, PySem.sizeLine_eq, Nat.reduceLeDiff,
  List.getElem?_cons_zero, List.getElem?_cons_succ, Option.some.injEq, exists_eq_left', List.set_cons_zero, List.set_cons_succ, exists_eq_left, V.int.injEq, V.bl.injEq, V.ref.injEq, List.cons.injEq, and_true, true_and, and_assoc, exists_and_left, decide_eq_true_eq,
  rEq_int, rNe_int, cdiv_iff, cpow10, Int.reduceLT, Int.reduceLE, Int.reduceToNat, Int.reducePow, Int.reduceNeg, Int.reduceSub, Int.reduceAdd, Int.reduceMul, Nat.reducePow, Nat.reduceLT, Bool.not_eq_true', Bool.false_eq_true, if_true, if_false, not_true_eq_false, not_false_eq_true, ite_not, Bool.not_true, Bool.not_false, reduceCtorEq, ipI, tAug, isi_int_int, isi_int_bool, isi_bool_bool, Bool.true_eq_false, reduceIte])
local macro_rules | `(tactic| walk_at "fo") => `(tactic| try simp only [tFor_enum, tFor_zip, tFor_list, tFor_r1])
local macro_rules | `(tactic| walk_at "mk") => `(tactic| try simp only [tMake, tCallSD, List.nil_append, List.cons_append, List.append_nil])

/-! ### the place of a share: what the program computes -/
def spPlace (K : PySem.W.Frag) : Sp := fun vs H Q E => ∃ m p wh : Int, vs = [.int m, .int p, .int wh] ∧ (m.natAbs < 2 ^ 250 ∧ p.natAbs < 2 ^ 250) ∧
  (BadS p wh → E (.ref (He.ga K "NoShare")) none H) ∧ (¬ BadS p wh → ∀ H', Same H H' → Q (.int (placeM m p wh)) H')
section
variable {P : Program} {w : World} {K : PySem.W.Frag} {mg : Str → Option Value} {base : Heap}
theorem ok_place (T : Tx K mg) {fd : FuncData} (F : FnP K "place" "place" s_place (He.ga K "place") fd) : Fn P w K mg base 1 (He.ga K "place") P_place (spPlace K) := by
  refine fn_okX F sc_place (fun vs H Q E h => ?_) (fun _ _ _ _ _ _ us hl => match us, hl with | [_, _, _], _ => rfl) (fun cdv A outer s H vs Q E hr h => ?_)
  · obtain ⟨m, p, wh, rfl, _⟩ := h
    rfl
  · obtain ⟨m, p, wh, rfl, ⟨hm, hp⟩, hb, hg⟩ := h
    refine ⟨_, (pss_cons (ps_if (PW.pt (pw_or (pt_cmpR op_lt (pv 2) pe_int (nomark _)) (pw_or (pt_cmpR op_lt (pv 1) pe_int (nomark _)) (pw_or1 (pt_cmpR op_gt (pv 1) (pv 2) (nomark _)))))) (pss_one (ps_raise rfl (takes_of rfl rfl rfl rfl) (pmk_own PySem.F.excBase_ValueError T.xc_NoShare.1 T.g_NoShare T.xc_NoShare.2.1 (raises_own T.xc_NoShare.2.2.1 T.xc_NoShare.2.2.2) rfl))) pss_nil)
    (pss_cons (ps_if (pt_cmpR op_eq (pv 0) pe_int (nomark _)) (pss_one (ps_ret pe_int)) pss_nil)
    (pss_cons (ps_asg (pe_callB call_divmodW rfl T.z_divmod (by decide +kernel) (pa_cons (pe_op op_mulX (pv 0) (pv 1)) (pa_cons (pv 2) pa_nil))) (pg_tup rfl (pgs_cons (pg_name (i := 3) sc_place.nd rfl (Or.inl rfl)) (pgs_cons (pg_name (i := 4) sc_place.nd rfl (Or.inl rfl)) pgs_nil))))
    (pss_cons (ps_if (pt_cmpR op_gt (pv 4) pe_int (nomark _)) (pss_one (ps_aug (i := 3) sc_place.nd rfl (Or.inl rfl) pe_int ip_add)) pss_nil)
    (pss_one (ps_ret (pe_callB (call_max2 rfl) rfl T.z_max (by decide +kernel) (pa_cons pe_int (pa_cons (pv 3) pa_nil))))))))), ?_⟩
    rw [show start N_place [V.int m, V.int p, V.int wh] = [some (V.int m), some (V.int p), some (V.int wh), none, none] from rfl]
    walk_at "rd"
    by_cases c1 : wh < 1
    · rw [if_pos c1]
      exact hb (.inl c1)
    rw [if_neg c1]
    by_cases c2 : p < 0
    · rw [if_pos c2]
      exact hb (.inr (.inl c2))
    rw [if_neg c2]
    by_cases c3 : wh < p
    · rw [if_pos c3]
      exact hb (.inr (.inr c3))
    rw [if_neg c3]
    have g := hg (by unfold BadS; omega)
    by_cases c4 : m = 0
    · rw [if_pos c4]
      have := g H (Same.refl H)
      unfold placeM at this
      rw [if_pos c4] at this
      exact this
    rw [if_neg c4]
    refine ⟨mulx_ok hm hp (by decide), divp_small (by omega) (mul_small hm hp) (by decide), fun q hq => ?_⟩
    refine ⟨q, _, rfl, SqT.of upd_same, rfl, ?_⟩
    walk_at "rd"
    have s1 : Same H (upd H q (.tup [.int (m * p / wh), .int (m * p % wh)])) := fun b o e => by rw [upd_ne (ne_of_none e hq)]; exact e
    have g1 := g _ s1
    unfold placeM fullM at g1
    rw [if_neg c4] at g1
    by_cases c5 : 0 < m * p % wh
    · rw [if_pos c5] at g1
      rw [if_pos c5]
      exact g1
    · rw [if_neg c5] at g1
      rw [if_neg c5]
      exact g1
end
end Mp

namespace Mp
open PySem PySem.Spec PyProof.Rows L2
local macro_rules | `(tactic| walk_at "rd") => `(tactic| try simp only [tSeq, tAsg, gName, tVar, tC, tOp, rI0, rI, tTest, tB, tIfS, tNext, tBreak, tCont, tRet, tRetN, tDrop, tCons, tNil, tCallS, tCB, tAnd, tOr, tNot, tAndV, tOrV, tNotV, tUn, rU, tIf, tChain, gCons, gNil, gSub, tFld_r, sFld_r, sFldAug_r, tDGet_r, tDIn_r, tDNotIn_r, sDPut_r, tDPop1_r, tMethF_r, tMakeF, tBits, tSl, tPart, tDNewK, cxOf_K, tBM, tBM0, tTup, tLst, List.length_cons, List.length_nil, Nat.reduceAdd, Nat.zero_add, PySem.sizeLine_eq, Nat.reduceLeDiff,
  List.getElem?_cons_zero, List.getElem?_cons_succ, Option.some.injEq, exists_eq_left', List.set_cons_zero, List.set_cons_succ, exists_eq_left, V.int.injEq, V.bl.injEq, V.ref.injEq, List.cons.injEq, and_true, true_and, and_assoc, exists_and_left, decide_eq_true_eq,
  rEq_int, rNe_int, cdiv_iff, cpow10, Int.reduceLT, Int.reduceLE, Int.reduceToNat, Int.reducePow, Int.reduceNeg, Int.reduceSub, Int.reduceAdd, Int.reduceMul, Nat.reducePow, Nat.reduceLT, Bool.not_eq_true', Bool.false_eq_true, if_true, if_false, not_true_eq_false, not_false_eq_true, ite_not, Bool.not_true, Bool.not_false, reduceCtorEq, ipI, tAug, isi_int_int, isi_int_bool, isi_bool_bool, Bool.true_eq_false, reduceIte])
local macro_rules | `(tactic| walk_at "fo") => `(tactic| try simp only [tFor_enum, tFor_zip, tFor_list, tFor_r1])
local macro_rules | `(tactic| walk_at "mk") => `(tactic| try simp only [tMake, tCallSD, List.nil_append, List.cons_append, List.append_nil])

/-! ### a row between two calls -/
structure RA where
  r : Addr
  dx : Addr
  lo : PA
  hi : PA
  nd : Addr
def mf (a : RA) (pt wh cm : Int) : List (Str × V) := [("part", .int pt), ("whole", .int wh), ("low", .ref a.lo.p), ("high", .ref a.hi.p), ("numbers", .ref a.nd), ("came", .int cm)]
section
variable (a : RA) (pt wh cm z : Int)
theorem mf_part : (mf a pt wh cm).lookup ("part" : Str) = some (.int pt) := lk_eq
theorem mf_whole : (mf a pt wh cm).lookup ("whole" : Str) = some (.int wh) := (lk_ne (by decide +kernel)).trans lk_eq
theorem mf_low : (mf a pt wh cm).lookup ("low" : Str) = some (.ref a.lo.p) := (lk_ne (by decide +kernel)).trans ((lk_ne (by decide +kernel)).trans lk_eq)
theorem mf_high : (mf a pt wh cm).lookup ("high" : Str) = some (.ref a.hi.p) := (lk_ne (by decide +kernel)).trans ((lk_ne (by decide +kernel)).trans ((lk_ne (by decide +kernel)).trans lk_eq))
theorem mf_numbers : (mf a pt wh cm).lookup ("numbers" : Str) = some (.ref a.nd) := (lk_ne (by decide +kernel)).trans ((lk_ne (by decide +kernel)).trans ((lk_ne (by decide +kernel)).trans ((lk_ne (by decide +kernel)).trans lk_eq)))
theorem mf_came : (mf a pt wh cm).lookup ("came" : Str) = some (.int cm) := (lk_ne (by decide +kernel)).trans ((lk_ne (by decide +kernel)).trans ((lk_ne (by decide +kernel)).trans ((lk_ne (by decide +kernel)).trans ((lk_ne (by decide +kernel)).trans lk_eq))))
theorem mf_no {m : Str} (h : (m == ("part" : Str)) = false ∧ (m == ("whole" : Str)) = false ∧ (m == ("low" : Str)) = false ∧ (m == ("high" : Str)) = false ∧ (m == ("numbers" : Str)) = false ∧ (m == ("came" : Str)) = false) : (mf a pt wh cm).lookup m = none :=
  (lk_ne h.1).trans ((lk_ne h.2.1).trans ((lk_ne h.2.2.1).trans ((lk_ne h.2.2.2.1).trans ((lk_ne h.2.2.2.2.1).trans ((lk_ne h.2.2.2.2.2).trans rfl)))))
theorem mf_putpart : putF "part" (.int z) (mf a pt wh cm) = mf a z wh cm := putF_eq
theorem mf_putwhole : putF "whole" (.int z) (mf a pt wh cm) = mf a pt z cm := (putF_ne (by decide +kernel)).trans (congrArg _ putF_eq)
theorem mf_putcame : putF "came" (.int z) (mf a pt wh cm) = mf a pt wh z := (putF_ne (by decide +kernel)).trans (congrArg _ ((putF_ne (by decide +kernel)).trans (congrArg _ ((putF_ne (by decide +kernel)).trans (congrArg _ ((putF_ne (by decide +kernel)).trans (congrArg _ ((putF_ne (by decide +kernel)).trans (congrArg _ putF_eq)))))))))
theorem mf_new : putF "came" (.int 0) (putF "numbers" (.ref a.nd) (putF "high" (.ref a.hi.p) (putF "low" (.ref a.lo.p) (putF "whole" (.int wh) (putF "part" (.int pt) []))))) = mf a pt wh 0 := by
  have e1 : putF "part" (.int pt) [] = [(("part" : Str), V.int pt)] := rfl
  have e2 : putF "whole" (.int wh) [(("part" : Str), V.int pt)] = ([("part", .int pt), ("whole", .int wh)] : List (Str × V)) := (putF_ne (by decide +kernel)).trans rfl
  have e3 : putF "low" (.ref a.lo.p) [(("part" : Str), V.int pt), ("whole", .int wh)] = ([("part", .int pt), ("whole", .int wh), ("low", .ref a.lo.p)] : List (Str × V)) := (putF_ne (by decide +kernel)).trans (congrArg _ ((putF_ne (by decide +kernel)).trans rfl))
  have e4 : putF "high" (.ref a.hi.p) [(("part" : Str), V.int pt), ("whole", .int wh), ("low", .ref a.lo.p)] = ([("part", .int pt), ("whole", .int wh), ("low", .ref a.lo.p), ("high", .ref a.hi.p)] : List (Str × V)) := (putF_ne (by decide +kernel)).trans (congrArg _ ((putF_ne (by decide +kernel)).trans (congrArg _ ((putF_ne (by decide +kernel)).trans rfl))))
  have e5 : putF "numbers" (.ref a.nd) [(("part" : Str), V.int pt), ("whole", .int wh), ("low", .ref a.lo.p), ("high", .ref a.hi.p)] = ([("part", .int pt), ("whole", .int wh), ("low", .ref a.lo.p), ("high", .ref a.hi.p), ("numbers", .ref a.nd)] : List (Str × V)) := (putF_ne (by decide +kernel)).trans (congrArg _ ((putF_ne (by decide +kernel)).trans (congrArg _ ((putF_ne (by decide +kernel)).trans (congrArg _ ((putF_ne (by decide +kernel)).trans rfl))))))
  rw [e1, e2, e3, e4, e5]
  exact (putF_ne (by decide +kernel)).trans (congrArg _ ((putF_ne (by decide +kernel)).trans (congrArg _ ((putF_ne (by decide +kernel)).trans (congrArg _ ((putF_ne (by decide +kernel)).trans (congrArg _ ((putF_ne (by decide +kernel)).trans rfl))))))))
end
/-- the heap bears the row -/
structure RwAt (K : PySem.W.Frag) (a : RA) (H : Hp) (pt wh cm : Int) (lo hi : Sx) (ks : List T) : Prop where
  ob : H a.r = some (.ins (He.ga K "Midrow") a.dx (mf a pt wh cm))
  lo : PAt K true a.lo H lo
  hi : PAt K false a.hi H hi
  nu : H a.nd = some (.dK (numK ks))
  di : [a.r, a.nd, a.lo.p, a.lo.l, a.lo.d, a.hi.p, a.hi.l, a.hi.d].Nodup
abbrev PR (a : RA) : List Addr := [a.r, a.nd, a.lo.p, a.lo.l, a.lo.d, a.hi.p, a.hi.l, a.hi.d]
abbrev PRp (a : RA) : List Addr := [a.lo.p, a.lo.l, a.lo.d, a.hi.p, a.hi.l, a.hi.d]
section
variable {K : PySem.W.Frag} {a : RA} {H H' : Hp} {pt wh cm : Int} {lo hi : Sx} {ks : List T}
theorem RwAt.notup (R : RwAt K a H pt wh cm lo hi ks) : NoTup H (PR a) := by
  intro b hb xs
  simp only [PR, List.mem_cons, List.not_mem_nil, or_false] at hb
  rcases hb with rfl | rfl | rfl | rfl | rfl | rfl | rfl | rfl
  · rw [R.ob]; simp
  · rw [R.nu]; simp
  · rw [R.lo.raw.ob]; simp
  · rw [R.lo.raw.li]; simp
  · rw [R.lo.raw.di]; simp
  · rw [R.hi.raw.ob]; simp
  · rw [R.hi.raw.li]; simp
  · rw [R.hi.raw.di]; simp
theorem RwAt.fr (R : RwAt K a H pt wh cm lo hi ks) {P : List Addr} (f : Fr P H H') (h : ∀ b ∈ PR a, b ∉ P) (n : NoTup H P) : RwAt K a H' pt wh cm lo hi ks := by
  have h1 := h a.r (by simp)
  have h2 := h a.nd (by simp)
  exact ⟨f _ _ R.ob h1, R.lo.fr f n (h _ (by simp)) (h _ (by simp)) (h _ (by simp)), R.hi.fr f n (h _ (by simp)) (h _ (by simp)) (h _ (by simp)), f _ _ R.nu h2, R.di⟩
theorem RwAt.same (R : RwAt K a H pt wh cm lo hi ks) (f : Same H H') : RwAt K a H' pt wh cm lo hi ks := R.fr (P := []) (Fr.of_same f) (fun _ _ => by simp) (fun _ h => by cases h)
theorem RwAt.alive (R : RwAt K a H pt wh cm lo hi ks) {z : Addr} (hz : H z = none) : z ∉ PR a := by
  have n1 := ne_of_none R.ob hz
  have n2 := ne_of_none R.nu hz
  have n3 := ne_of_none R.lo.raw.ob hz
  have n4 := ne_of_none R.lo.raw.li hz
  have n5 := ne_of_none R.lo.raw.di hz
  have n6 := ne_of_none R.hi.raw.ob hz
  have n7 := ne_of_none R.hi.raw.li hz
  have n8 := ne_of_none R.hi.raw.di hz
  simp [n1.symm, n2.symm, n3.symm, n4.symm, n5.symm, n6.symm, n7.symm, n8.symm]
/-- the low pile has changed -/
theorem RwAt.setLo {lo' : Sx} (R : RwAt K a H pt wh cm lo hi ks) (S : PAt K true a.lo H' lo') (f : FrP a.lo H H') : RwAt K a H' pt wh cm lo' hi ks ∧ Fr (PRp a) H H' := by
  have d := nod2 R.di
  simp only [List.pairwise_cons, List.mem_cons, List.not_mem_nil, or_false, false_or, forall_eq_or_imp, forall_eq, and_true, List.Pairwise.nil, false_imp_iff, implies_true, forall_const] at d
  have f1 : Fr [a.lo.p, a.lo.l, a.lo.d] H H' := f.fr (by simp) (by simp) (by simp)
  have n1 : NoTup H [a.lo.p, a.lo.l, a.lo.d] := R.notup.mono (by simp)
  exact ⟨⟨f1 _ _ R.ob (by first | (simp [d]; done) | grind), S, R.hi.fr f1 n1 (by first | (simp [d]; done) | grind) (by first | (simp [d]; done) | grind) (by first | (simp [d]; done) | grind), f1 _ _ R.nu (by first | (simp [d]; done) | grind), R.di⟩, f1.mono (by simp)⟩
theorem RwAt.setHi {hi' : Sx} (R : RwAt K a H pt wh cm lo hi ks) (S : PAt K false a.hi H' hi') (f : FrP a.hi H H') : RwAt K a H' pt wh cm lo hi' ks ∧ Fr (PRp a) H H' := by
  have d := nod2 R.di
  simp only [List.pairwise_cons, List.mem_cons, List.not_mem_nil, or_false, false_or, forall_eq_or_imp, forall_eq, and_true, List.Pairwise.nil, false_imp_iff, implies_true, forall_const] at d
  have f1 : Fr [a.hi.p, a.hi.l, a.hi.d] H H' := f.fr (by simp) (by simp) (by simp)
  have n1 : NoTup H [a.hi.p, a.hi.l, a.hi.d] := R.notup.mono (by simp)
  exact ⟨⟨f1 _ _ R.ob (by first | (simp [d]; done) | grind), R.lo.fr f1 n1 (by first | (simp [d]; done) | grind) (by first | (simp [d]; done) | grind) (by first | (simp [d]; done) | grind), S, f1 _ _ R.nu (by first | (simp [d]; done) | grind), R.di⟩, f1.mono (by simp)⟩
end
/-! ### the promises of a row -/
def spMInit (K : PySem.W.Frag) : Sp := fun vs H Q E => ∃ (r dx : Addr) (pt wh : Int), vs = [.ref r, .int pt, .int wh] ∧ H r = some (.ins (He.ga K "Midrow") dx []) ∧ pt.natAbs < 2 ^ 250 ∧ (BadS pt wh → E (.ref (He.ga K "NoShare")) none H) ∧
  (¬ BadS pt wh → ∀ (a : RA) (H' : Hp), a.r = r → a.dx = dx → RwAt K a H' pt wh 0 ([], []) ([], []) [] → (∀ b ∈ PR a, b ≠ r → H b = none) → (∀ b o, H b = some o → b ≠ r → H' b = some o) → Q .non H')
def spRMany (K : PySem.W.Frag) : Sp := fun vs H Q _ => ∃ (a : RA) (pt wh cm : Int) (lo hi : Sx) (ks : List T), vs = [.ref a.r] ∧ RwAt K a H pt wh cm lo hi ks ∧ Q (.int (ks.length : Int)) H
def spSettle (K : PySem.W.Frag) : Sp := fun vs H Q _ => ∃ (a : RA) (pt wh cm : Int) (lo hi : Sx) (ks : List T), vs = [.ref a.r] ∧ RwAt K a H pt wh cm lo hi ks ∧ ¬ BadS pt wh ∧ pt.natAbs < 2 ^ 250 ∧ (∀ x ∈ lo.1, ∀ y ∈ hi.1, lt2 x.2 y.2 = true) ∧ ((lo.1 ++ hi.1).map (·.2.2)).Nodup ∧ lo.1.length + hi.1.length = ks.length ∧ ks.length < 100000 ∧
  ∀ (due : Nat) lo' hi' H', placeM (ks.length : Int) pt wh = (due : Int) → RwAt K a H' pt wh cm lo' hi' ks → SetOk lo hi lo' hi' due → Fr (PRp a) H H' → Q .non H'
/-- between two turns of settle's loops -/
def SetW1 (K : PySem.W.Frag) (a : RA) (pt wh cm : Int) (ks : List T) (due : Nat) (lo hi : Sx) (H : Hp) : Nat → L2.St → Hp → Prop := fun m σ H1 =>
  ∃ (lo1 hi1 : Sx) (mv : Nat), σ = [some (V.ref a.r), some (V.int (due : Int))] ∧ m = lo1.1.length - due ∧ RwAt K a H1 pt wh cm lo1 hi1 ks ∧ SI lo hi lo1 hi1 mv ∧ lo1.1.length + mv = lo.1.length ∧ (mv ≠ 0 → due ≤ lo1.1.length) ∧ Fr (PRp a) H H1
def SetW2 (K : PySem.W.Frag) (a : RA) (pt wh cm : Int) (ks : List T) (due : Nat) (lo hi : Sx) (H : Hp) : Nat → L2.St → Hp → Prop := fun m σ H1 =>
  ∃ (lo1 hi1 : Sx) (mv : Nat), σ = [some (V.ref a.r), some (V.int (due : Int))] ∧ m = due - lo1.1.length ∧ RwAt K a H1 pt wh cm lo1 hi1 ks ∧ SI lo hi lo1 hi1 mv ∧ ((lo1.1.length + mv = lo.1.length ∧ lo1.1.length = due) ∨ (lo1.1.length = lo.1.length + mv ∧ lo1.1.length ≤ due)) ∧ Fr (PRp a) H H1
section
variable {P : Program} {w : World} {K : PySem.W.Frag} {mg : Str → Option Value} {base : Heap}
theorem ok_Midrow_many (T : Tx K mg) {fd : FuncData} (F : FnP K "many" "Midrow.many" s_Midrow_many (He.ma K (He.ga K "Midrow") "many") fd) : Fn P w K mg base 1 (He.ma K (He.ga K "Midrow") "many") P_Midrow_many (spRMany K) := by
  refine fn_ok F sc_Midrow_many (fun vs H Q E h => ?_) (fun _ _ _ _ _ _ us hl => match us, hl with | [_], _ => rfl) (fun cdv A outer s0 H vs Q E hr h => ?_)
  · obtain ⟨a, pt, wh, cm, lo, hi, ks, rfl, _⟩ := h
    rfl
  · obtain ⟨a, pt, wh, cm, lo, hi, ks, rfl, R, hQ⟩ := h
    refine ⟨_, (pss_one (ps_ret (pe_callB call_lenD rfl T.z_len PySem.boot_len (pa_cons (pe_fld (pv 0) rfl) pa_nil)))), ?_⟩
    rw [show start N_Midrow_many [V.ref a.r] = [some (V.ref a.r)] from rfl]
    walk_at "rd"
    refine fldR.mk R.ob T.cl_Midrow T.na_Midrow_numbers (mf_numbers _ _ _ _) ?_
    exact ⟨_, rfl, _, R.nu, by rw [numK, List.length_map]; exact hQ⟩
theorem ok_Midrow_settle (T : Tx K mg) (F_place : Fn P w K mg base 1 (He.ga K "place") P_place (spPlace K)) (F_Midrow_many : Fn P w K mg base 1 (He.ma K (He.ga K "Midrow") "many") P_Midrow_many (spRMany K))
    (F_many_L : Fn P w K mg base 1 (He.ma K (He.ga K "Pile") "many") P_Pile_many (spMany K true)) (F_many_H : Fn P w K mg base 1 (He.ma K (He.ga K "Pile") "many") P_Pile_many (spMany K false)) (F_top_L : Fn P w K mg base 1 (He.ma K (He.ga K "Pile") "top") P_Pile_top (spTop K true)) (F_top_H : Fn P w K mg base 1 (He.ma K (He.ga K "Pile") "top") P_Pile_top (spTop K false))
    (F_put_L : Fn P w K mg base 3 (He.ma K (He.ga K "Pile") "put") P_Pile_put (spPut K true)) (F_put_H : Fn P w K mg base 3 (He.ma K (He.ga K "Pile") "put") P_Pile_put (spPut K false)) (F_take_L : Fn P w K mg base 3 (He.ma K (He.ga K "Pile") "take") P_Pile_take (spTake K true)) (F_take_H : Fn P w K mg base 3 (He.ma K (He.ga K "Pile") "take") P_Pile_take (spTake K false))
    {fd : FuncData} (F : FnP K "settle" "Midrow.settle" s_Midrow_settle (He.ma K (He.ga K "Midrow") "settle") fd) : Fn P w K mg base 4 (He.ma K (He.ga K "Midrow") "settle") P_Midrow_settle (spSettle K) := by
  have Lt := pt_of T true
  have Ht := pt_of T false
  refine fn_ok F sc_Midrow_settle (fun vs H Q E h => ?_) (fun _ _ _ _ _ _ us hl => match us, hl with | [_], _ => rfl) (fun cdv A outer s0 H vs Q E hr h => ?_)
  · obtain ⟨a, pt, wh, cm, lo, hi, ks, rfl, _⟩ := h
    rfl
  · obtain ⟨a, pt, wh, cm, lo, hi, ks, rfl, R, nB, bp, ho, hnd, hlen, hle, hQ⟩ := h
    refine ⟨_, (pss_cons (ps_set (i := 1) sc_Midrow_settle.nd rfl (Or.inl rfl) (pe_callF F_place hr T.g_place (fun _ => nopass) (pa_cons (pe_methF0 (pv 0) T.cl_Midrow T.m_Midrow_many F_Midrow_many hr (fun _ => nopass)) (pa_cons (pe_fld (pv 0) rfl) (pa_cons (pe_fld (pv 0) rfl) pa_nil)))))
    (pss_cons (ps_while PassesOwn.never (pt_cmpR op_gt (pe_methF0 (pe_fld (pv 0) rfl) Lt.cl Lt.m_many F_many_L hr (fun _ => nopass)) (pv 1) (nomark _)) (pss_one (ps_expr (pe_methF (pe_fld (pv 0) rfl) Ht.cl Ht.m_put F_put_H hr (fun _ => nopass) (pa_cons (pe_methF (pe_fld (pv 0) rfl) Lt.cl Lt.m_take F_take_L hr (fun _ => nopass) (pa_cons (pe_ix ix_tup (pe_methF0 (pe_fld (pv 0) rfl) Lt.cl Lt.m_top F_top_L hr (fun _ => nopass)) pe_int (fun _ _ => rfl)) pa_nil)) pa_nil)))))
    (pss_one (ps_while PassesOwn.never (pt_cmpR op_lt (pe_methF0 (pe_fld (pv 0) rfl) Lt.cl Lt.m_many F_many_L hr (fun _ => nopass)) (pv 1) (nomark _)) (pss_one (ps_expr (pe_methF (pe_fld (pv 0) rfl) Lt.cl Lt.m_put F_put_L hr (fun _ => nopass) (pa_cons (pe_methF (pe_fld (pv 0) rfl) Ht.cl Ht.m_take F_take_H hr (fun _ => nopass) (pa_cons (pe_ix ix_tup (pe_methF0 (pe_fld (pv 0) rfl) Ht.cl Ht.m_top F_top_H hr (fun _ => nopass)) pe_int (fun _ _ => rfl)) pa_nil)) pa_nil)))))))), ?_⟩
    rw [show start N_Midrow_settle [V.ref a.r] = [some (V.ref a.r), none] from rfl]
    walk_at "rd"
    have nM : ∀ m : Str, (m == ("part" : Str)) = false → (m == ("whole" : Str)) = false → (m == ("low" : Str)) = false → (m == ("high" : Str)) = false → (m == ("numbers" : Str)) = false → (m == ("came" : Str)) = false → (mf a pt wh cm).lookup m = none := fun m h1 h2 h3 h4 h5 h6 => mf_no _ _ _ _ ⟨h1, h2, h3, h4, h5, h6⟩
    have noX : ∀ (a : PA) (z : Int) (m : Str), (m == ("things" : Str)) = false → (m == ("where" : Str)) = false → (m == ("heavy" : Str)) = false → (pf a.l a.d z).lookup m = none := fun a z m h1 h2 h3 => pf_no _ _ _ h1 h2 h3
    refine metR.mk R.ob (nM _ (by decide +kernel) (by decide +kernel) (by decide +kernel) (by decide +kernel) (by decide +kernel) (by decide +kernel)) ⟨a, pt, wh, cm, lo, hi, ks, rfl, R, ?_⟩
    refine fldR.mk R.ob T.cl_Midrow T.na_Midrow_part (mf_part _ _ _ _) (fldR.mk R.ob T.cl_Midrow T.na_Midrow_whole (mf_whole _ _ _ _) ?_)
    refine ⟨(ks.length : Int), pt, wh, rfl, ⟨by omega, bp⟩, fun z => absurd z nB, fun _ H0 s0' => ?_⟩
    obtain ⟨pl0, pl1⟩ := place_nn (m := (ks.length : Int)) (by omega) nB
    obtain ⟨due, hdue⟩ : ∃ due : Nat, placeM (ks.length : Int) pt wh = (due : Int) := ⟨(placeM (ks.length : Int) pt wh).toNat, by omega⟩
    rw [hdue] at pl1 ⊢
    have R0 := R.same s0'
    have ndAll : ∀ {lo1 hi1 : Sx} {mv : Nat}, SI lo hi lo1 hi1 mv → ((lo1.1 ++ hi1.1).map (·.2.2)).Nodup := fun S => (S.pm.map _).nodup_iff.mpr hnd
    have ltAll : ∀ {lo1 hi1 : Sx} {mv : Nat}, SI lo hi lo1 hi1 mv → lo1.1.length + hi1.1.length = ks.length := fun S => by
      have := S.pm.length_eq
      simp at this
      omega
    refine ⟨SetW1 K a pt wh cm ks due lo hi H, ⟨_, lo, hi, 0, rfl, rfl, R0, SI.start ho, rfl, by simp, Fr.of_same s0'⟩, ?_⟩
    rintro m σ H1 ⟨lo1, hi1, mv, rfl, rfl, R1, S1, l1, i1, f1⟩
    walk_at "rd"
    have t1 := ltAll S1
    refine fldR.mk R1.ob T.cl_Midrow T.na_Midrow_low (mf_low _ _ _ _) (metR.mk R1.lo.raw.ob (noX _ _ _ (by decide +kernel) (by decide +kernel) (by decide +kernel)) (hMany R1.lo ⟨_, rfl, ?_⟩))
    refine ite2 (fun c1 => ?_) (fun c1 => ?_)
    · refine ⟨fun σ' H' => ∃ m', m' < lo1.1.length - due ∧ SetW1 K a pt wh cm ks due lo hi H m' σ' H', fun σ' H' h => h, ?_⟩
      have c1 : due < lo1.1.length := by omega
      walk_at "rd"
      refine fldR.mk R1.ob T.cl_Midrow T.na_Midrow_high (mf_high _ _ _ _) (metR.mk R1.hi.raw.ob (noX _ _ _ (by decide +kernel) (by decide +kernel) (by decide +kernel)) ?_)
      refine fldR.mk R1.ob T.cl_Midrow T.na_Midrow_low (mf_low _ _ _ _) (metR.mk R1.lo.raw.ob (noX _ _ _ (by decide +kernel) (by decide +kernel) (by decide +kernel)) ?_)
      refine fldR.mk R1.ob T.cl_Midrow T.na_Midrow_low (mf_low _ _ _ _) (metR.mk R1.lo.raw.ob (noX _ _ _ (by decide +kernel) (by decide +kernel) (by decide +kernel)) ?_)
      refine hTop R1.lo (fun z => by rw [z] at c1; cases c1) fun e he htop H2 s2 => ?_
      have hem : e ∈ lo1.1 := mem_iff_get.mpr ⟨0, he⟩
      have R2 := R1.same s2
      refine ixT1 (n := e.2.1) (c := e.2.2) (R2.lo.tup e hem) ?_
      refine hTake R2.lo (by omega) (fun h => absurd rfl (h e hem)) fun e2 he2 hc2 lo2 H3 L3 p3 d3 f3 => ?_
      have ee : e2 = e := by
        obtain ⟨i, hi'⟩ := mem_iff_get.mp hem
        obtain ⟨j, hj⟩ := mem_iff_get.mp he2
        by_cases ne : i = j
        · subst ne; rw [hi'] at hj; cases hj; rfl
        · exact absurd hc2.symm (nd_ne R2.lo.ok.wf.nd hi' hj ne)
      subst ee
      obtain ⟨R3, g3⟩ := R2.setLo L3 f3
      have hx3 := tup_fr g3 (R2.notup.mono (by simp)) (R2.lo.tup e2 hem)
      refine hPut R3.hi hx3 (by omega) (fun ⟨y, hy, q⟩ => absurd q.symm (nd_app (ndAll S1) hem hy)) fun _ hi2 H4 L4 p4 d4 f4 => ?_
      obtain ⟨R4, g4⟩ := R3.setHi L4 f4
      have S4 := S1.down (ndAll S1) (fun x hx => htop x hx) p3 p4 d3 d4
      have lp := p3.length_eq
      simp only [List.length_cons] at lp
      exact ⟨lo2.1.length - due, by omega, lo2, hi2, mv + 1, rfl, rfl, R4, S4, by omega, fun h => by omega, f1.trans ((Fr.of_same s2).trans (g3.trans g4))⟩
    · have c1 : lo1.1.length ≤ due := by omega
      refine ⟨SetW2 K a pt wh cm ks due lo hi H, ⟨_, lo1, hi1, mv, rfl, rfl, R1, S1, ?_, f1⟩, ?_⟩
      · by_cases q : mv = 0
        · exact .inr ⟨by omega, c1⟩
        · exact .inl ⟨l1, by have := i1 q; omega⟩
      rintro m σ H1 ⟨lo1, hi1, mv, rfl, rfl, R1, S1, l1, f1⟩
      walk_at "rd"
      have t1 := ltAll S1
      refine fldR.mk R1.ob T.cl_Midrow T.na_Midrow_low (mf_low _ _ _ _) (metR.mk R1.lo.raw.ob (noX _ _ _ (by decide +kernel) (by decide +kernel) (by decide +kernel)) (hMany R1.lo ⟨_, rfl, ?_⟩))
      refine ite2 (fun c1 => ?_) (fun c1 => ?_)
      · refine ⟨fun σ' H' => ∃ m', m' < due - lo1.1.length ∧ SetW2 K a pt wh cm ks due lo hi H m' σ' H', fun σ' H' h => h, ?_⟩
        have c1 : lo1.1.length < due := by omega
        walk_at "rd"
        refine fldR.mk R1.ob T.cl_Midrow T.na_Midrow_low (mf_low _ _ _ _) (metR.mk R1.lo.raw.ob (noX _ _ _ (by decide +kernel) (by decide +kernel) (by decide +kernel)) ?_)
        refine fldR.mk R1.ob T.cl_Midrow T.na_Midrow_high (mf_high _ _ _ _) (metR.mk R1.hi.raw.ob (noX _ _ _ (by decide +kernel) (by decide +kernel) (by decide +kernel)) ?_)
        refine fldR.mk R1.ob T.cl_Midrow T.na_Midrow_high (mf_high _ _ _ _) (metR.mk R1.hi.raw.ob (noX _ _ _ (by decide +kernel) (by decide +kernel) (by decide +kernel)) ?_)
        refine hTop R1.hi (fun z => by rw [z] at t1; simp at t1; omega) fun e he htop H2 s2 => ?_
        have hem : e ∈ hi1.1 := mem_iff_get.mpr ⟨0, he⟩
        have R2 := R1.same s2
        refine ixT1 (n := e.2.1) (c := e.2.2) (R2.hi.tup e hem) ?_
        refine hTake R2.hi (by omega) (fun h => absurd rfl (h e hem)) fun e2 he2 hc2 hi2 H3 L3 p3 d3 f3 => ?_
        have ee : e2 = e := by
          obtain ⟨i, hi'⟩ := mem_iff_get.mp hem
          obtain ⟨j, hj⟩ := mem_iff_get.mp he2
          by_cases ne : i = j
          · subst ne; rw [hi'] at hj; cases hj; rfl
          · exact absurd hc2.symm (nd_ne R2.hi.ok.wf.nd hi' hj ne)
        subst ee
        obtain ⟨R3, g3⟩ := R2.setHi L3 f3
        have hx3 := tup_fr g3 (R2.notup.mono (by simp)) (R2.hi.tup e2 hem)
        refine hPut R3.lo hx3 (by omega) (fun ⟨y, hy, q⟩ => absurd q (nd_app (ndAll S1) hy hem)) fun _ lo2 H4 L4 p4 d4 f4 => ?_
        obtain ⟨R4, g4⟩ := R3.setLo L4 f4
        have S4 := S1.up (ndAll S1) (fun x hx => htop x hx) p4 p3 d4 d3
        have lp := p4.length_eq
        simp only [List.length_cons] at lp
        exact ⟨due - lo2.1.length, by omega, lo2, hi2, mv + 1, rfl, rfl, R4, S4, .inr ⟨by omega, by omega⟩, f1.trans ((Fr.of_same s2).trans (g3.trans g4))⟩
      · exact hQ due lo1 hi1 H1 hdue R1 (S1.fin (by omega) (by omega)) f1
end
end Mp

namespace Mp
open PySem PySem.Spec PyProof.Rows L2
local macro_rules | `(tactic| walk_at "rd") => `(tactic| try simp only [tSeq, tAsg, gName, tVar, tC, tOp, rI0, rI, tTest, tB, tIfS, tNext, tBreak, tCont, tRet, tRetN, tDrop, tCons, tNil, tCallS, tCB, tAnd, tOr, tNot, tAndV, tOrV, tNotV, tUn, rU, tIf, tChain, gCons, gNil, gSub, tFld_r, sFld_r, sFldAug_r, tDGet_r, tDIn_r, tDNotIn_r, sDPut_r, tDPop1_r, tMethF_r, tMakeF, tBits, tSl, tPart, tDNewK, cxOf_K, tBM, tBM0, tTup, tLst, List.length_cons, List.length_nil, Nat.reduceAdd, Nat.zero_add, PySem.sizeLine_eq, Nat.reduceLeDiff,
  List.getElem?_cons_zero, List.getElem?_cons_succ, Option.some.injEq, exists_eq_left', List.set_cons_zero, List.set_cons_succ, exists_eq_left, V.int.injEq, V.bl.injEq, V.ref.injEq, List.cons.injEq, and_true, true_and, and_assoc, exists_and_left, decide_eq_true_eq,
  rEq_int, rNe_int, cdiv_iff, cpow10, Int.reduceLT, Int.reduceLE, Int.reduceToNat, Int.reducePow, Int.reduceNeg, Int.reduceSub, Int.reduceAdd, Int.reduceMul, Nat.reducePow, Nat.reduceLT, Bool.not_eq_true', Bool.false_eq_true, if_true, if_false, not_true_eq_false, not_false_eq_true, ite_not, Bool.not_true, Bool.not_false, reduceCtorEq, ipI, tAug, isi_int_int, isi_int_bool, isi_bool_bool, Bool.true_eq_false, reduceIte])
local macro_rules | `(tactic| walk_at "fo") => `(tactic| try simp only [tFor_enum, tFor_zip, tFor_list, tFor_r1])
local macro_rules | `(tactic| walk_at "mk") => `(tactic| try simp only [tMake, tCallSD, List.nil_append, List.cons_append, List.append_nil])

def spRPut (K : PySem.W.Frag) : Sp := fun vs H Q _ => ∃ (a : RA) (pt wh cm : Int) (lo hi : Sx) (ks : List T) (n : Int), vs = [.ref a.r, .int n] ∧ RwAt K a H pt wh cm lo hi ks ∧ RwOk pt wh cm lo hi ks ∧ ks.length < 10000 ∧
  ∀ lo' hi' H', RwAt K a H' pt wh (cm + 1) lo' hi' (ks ++ [(n, cm + 1)]) → RwOk pt wh (cm + 1) lo' hi' (ks ++ [(n, cm + 1)]) → df lo.1 lo'.1 ≤ 4 * bl ks.length → df hi.1 hi'.1 ≤ 4 * bl ks.length → Fr (PR a) H H' → Q (.int (cm + 1)) H'
def spRTake (K : PySem.W.Frag) : Sp := fun vs H Q E => ∃ (a : RA) (pt wh cm : Int) (lo hi : Sx) (ks : List T) (c : Int), vs = [.ref a.r, .int c] ∧ RwAt K a H pt wh cm lo hi ks ∧ RwOk pt wh cm lo hi ks ∧ ks.length < 10000 ∧ (c ∉ ks.map (·.2) → E (.ref (He.ga K "NoThing")) none H) ∧
  ∀ (i : Nat) (t : T), ks[i]? = some t → t.2 = c → ∀ lo' hi' H', RwAt K a H' pt wh cm lo' hi' (ks.eraseIdx i) → RwOk pt wh cm lo' hi' (ks.eraseIdx i) → df lo.1 lo'.1 ≤ 4 * bl ks.length → df hi.1 hi'.1 ≤ 4 * bl ks.length → Fr (PR a) H H' → Q (.int t.1) H'
def spRNum (K : PySem.W.Frag) : Sp := fun vs H Q E => ∃ (a : RA) (pt wh cm : Int) (lo hi : Sx) (ks : List T) (c : Int), vs = [.ref a.r, .int c] ∧ RwAt K a H pt wh cm lo hi ks ∧ (ks.map (·.2)).Nodup ∧ (c ∉ ks.map (·.2) → E (.ref (He.ga K "NoThing")) none H) ∧ ∀ t ∈ ks, t.2 = c → Q (.int t.1) H
def spROld (K : PySem.W.Frag) : Sp := fun vs H Q E => ∃ (a : RA) (pt wh cm : Int) (lo hi : Sx) (ks : List T), vs = [.ref a.r] ∧ RwAt K a H pt wh cm lo hi ks ∧ (ks = [] → E (.ref (He.ga K "Empty")) none H) ∧ ∀ t, ks[0]? = some t → Q (.int t.2) H
def spRShare (K : PySem.W.Frag) : Sp := fun vs H Q E => ∃ (a : RA) (pt wh cm : Int) (lo hi : Sx) (ks : List T), vs = [.ref a.r] ∧ RwAt K a H pt wh cm lo hi ks ∧ (lo.1 = [] → ∀ H', Same H H' → E (.ref (He.ga K "Empty")) none H') ∧ ∀ e, lo.1[0]? = some e → (∀ x ∈ lo.1, lt2 e.2 x.2 = false) → ∀ H', Same H H' → Q (.ref e.1) H'
def spRPiles (K : PySem.W.Frag) : Sp := fun vs H Q E => ∃ (a : RA) (pt wh cm : Int) (lo hi : Sx) (ks : List T), vs = [.ref a.r] ∧ RwAt K a H pt wh cm lo hi ks ∧ ∀ q t1 t2 H', H q = none → H t1 = none → H t2 = none → t1 ≠ t2 → H' q = some (.tup [.ref t1, .ref t2]) → H' t1 = some (.lst (rf lo.1)) → H' t2 = some (.lst (rf hi.1)) → Same H H' → Q (.ref q) H'
def spRTurn (K : PySem.W.Frag) : Sp := fun vs H Q E => ∃ (a : RA) (pt wh cm : Int) (lo hi : Sx) (ks : List T) (p2 w2 : Int), vs = [.ref a.r, .int p2, .int w2] ∧ RwAt K a H pt wh cm lo hi ks ∧ RwOk pt wh cm lo hi ks ∧ ks.length < 10000 ∧ p2.natAbs < 2 ^ 250 ∧ (BadS p2 w2 → E (.ref (He.ga K "NoShare")) none H) ∧
  (¬ BadS p2 w2 → w2.natAbs < 2 ^ 250 → ∀ lo' hi' H', RwAt K a H' p2 w2 cm lo' hi' ks → RwOk p2 w2 cm lo' hi' ks → Fr (PR a) H H' → Q .non H') ∧ (BadS p2 w2 ∨ w2.natAbs < 2 ^ 250)
section
variable {P : Program} {w : World} {K : PySem.W.Frag} {mg : Str → Option Value} {base : Heap}
theorem ok_Midrow___init__ (T : Tx K mg) (F_place : Fn P w K mg base 1 (He.ga K "place") P_place (spPlace K)) (F_init0 : ∀ t, Fn P w K mg base 1 (He.ma K (He.ga K "Pile") "__init__") P_Pile___init__ (spPInit K t)) {fd : FuncData}
    (F : FunD K "__init__" "Midrow.__init__" (defArgs s_Midrow___init__) (defBody s_Midrow___init__) (defScope s_Midrow___init__) [.int 1, .int 2] [] (He.ma K (He.ga K "Midrow") "__init__") fd) : FnOk P w K mg base (L2.CX P w) 3 (He.ma K (He.ga K "Midrow") "__init__") fd P_Midrow___init__ (spMInit K) := by
  have F_Pile_init := F_init0 false
  have F_Turned_init := F_init0 true
  have mkT := T.mk_Turned
  rw [T.in_Turned_init] at mkT
  refine F.ok sc_Midrow___init__ (fun vs H Q E h => ?_) (fun cdv A outer s0 H vs Q E hr h => ?_)
  · obtain ⟨r, dx, pt, wh, rfl, _⟩ := h
    rfl
  · obtain ⟨r, dx, pt, wh, rfl, hr0, bp, hE, hQ⟩ := h
    refine ⟨_, (pss_cons (ps_expr (pe_callF F_place hr T.g_place (fun σ => passAt (takes_of rfl rfl rfl rfl) σ) (pa_cons pe_int (pa_cons (pv 1) (pa_cons (pv 2) pa_nil)))))
    (pss_cons (ps_fld (pv 0) (pv 1) rfl)
    (pss_cons (ps_fld (pv 0) (pv 2) rfl)
    (pss_cons (ps_fld (pv 0) (pe_makeF0 mkT F_Turned_init hr T.g_Turned nopass0) rfl)
    (pss_cons (ps_fld (pv 0) (pe_makeF0 T.mk_Pile F_Pile_init hr T.g_Pile nopass0) rfl)
    (pss_cons (ps_fld (pv 0) pe_dnewK rfl)
    (pss_one (ps_fld (pv 0) pe_int rfl)))))))), ?_⟩
    rw [show start N_Midrow___init__ [V.ref r, V.int pt, V.int wh] = [some (V.ref r), some (V.int pt), some (V.int wh)] from rfl]
    walk_at "rd"
    refine ⟨0, pt, wh, rfl, ⟨by decide, bp⟩, hE, fun nB H1 s1 => ?_⟩
    have g1 := s1 _ _ hr0
    refine setR.mk g1 T.cl_Midrow T.na_Midrow_part (by show 0 < 1000; decide) ?_
    walk_at "rd"
    refine setR.mk upd_same T.cl_Midrow T.na_Midrow_whole (by show 1 < 1000; decide) ?_
    rw [upd_upd]
    walk_at "rd"
    intro lp ldx hlp hldx lne
    have f1 : ∀ b o, H b = some o → b ≠ r → (upd H1 r (.ins (He.ga K "Midrow") dx (putF "whole" (V.int wh) (putF "part" (V.int pt) [])))) b = some o := fun b o e n => by rw [upd_ne n]; exact s1 _ _ e
    have g2 : (upd H1 r (.ins (He.ga K "Midrow") dx (putF "whole" (V.int wh) (putF "part" (V.int pt) [])))) r = some (.ins (He.ga K "Midrow") dx (putF "whole" (V.int wh) (putF "part" (V.int pt) []))) := upd_same
    revert hlp hldx f1 g2
    generalize upd H1 r (.ins (He.ga K "Midrow") dx (putF "whole" (V.int wh) (putF "part" (V.int pt) []))) = H2
    intro hlp hldx f1 g2
    have back : ∀ z, H2 z = none → H z = none := fun z hz => by
      cases e : H z with
      | none => rfl
      | some o =>
        by_cases q : z = r
        · rw [q, g2] at hz; cases hz
        · rw [f1 _ _ e q] at hz; cases hz
    refine hMade (t := true) hlp hldx lne fun ll ld H3 hll hld L3 s3 => ⟨rfl, ?_⟩
    refine setR.mk (s3 _ _ g2) T.cl_Midrow T.na_Midrow_low (by show 2 < 1000; decide) ?_
    have nlr : lp ≠ r := fun e => by rw [e, g2] at hlp; cases hlp
    have nllr : ll ≠ r := fun e => by rw [e, g2] at hll; cases hll
    have nldr : ld ≠ r := fun e => by rw [e, g2] at hld; cases hld
    have u4 : ∀ (o : HO) b o', H3 b = some o' → b ≠ r → (upd H3 r o) b = some o' := fun o b o' e n => by rw [upd_ne n]; exact e
    have L4 : PAt K true ⟨lp, ldx, ll, ld⟩ (upd H3 r (.ins (He.ga K "Midrow") dx (putF "low" (V.ref lp) (putF "whole" (V.int wh) (putF "part" (V.int pt) []))))) ([], []) :=
      L3.fr (P := [r]) (fr_upd (by simp)) (fun b hb xs => by rw [List.mem_singleton.mp hb, s3 _ _ g2]; simp) (by simp [nlr]) (by simp [nllr]) (by simp [nldr])
    have f4 : ∀ b o, H2 b = some o → b ≠ r → (upd H3 r (.ins (He.ga K "Midrow") dx (putF "low" (V.ref lp) (putF "whole" (V.int wh) (putF "part" (V.int pt) []))))) b = some o := fun b o e n => u4 _ _ _ (s3 _ _ e) n
    have g4 : (upd H3 r (.ins (He.ga K "Midrow") dx (putF "low" (V.ref lp) (putF "whole" (V.int wh) (putF "part" (V.int pt) []))))) r = some (.ins (He.ga K "Midrow") dx (putF "low" (V.ref lp) (putF "whole" (V.int wh) (putF "part" (V.int pt) [])))) := upd_same
    walk_at "rd"
    intro hp hdx hhp hhdx hne
    revert hhp hhdx L4 f4 g4
    generalize upd H3 r (.ins (He.ga K "Midrow") dx (putF "low" (V.ref lp) (putF "whole" (V.int wh) (putF "part" (V.int pt) [])))) = H4
    intro L4 f4 g4 hhp hhdx
    refine hMade (t := false) hhp hhdx hne fun hl hd H5 hhl hhd R5 s5 => ⟨rfl, ?_⟩
    refine setR.mk (s5 _ _ g4) T.cl_Midrow T.na_Midrow_high (by show 3 < 1000; decide) ?_
    have L5 := L4.same s5
    have nhr : hp ≠ r := fun e => by rw [e, g4] at hhp; cases hhp
    have nhlr : hl ≠ r := fun e => by rw [e, g4] at hhl; cases hhl
    have nhdr : hd ≠ r := fun e => by rw [e, g4] at hhd; cases hhd
    have g5 := s5 _ _ g4
    have n5 : NoTup H5 [r] := fun b hb xs => by rw [List.mem_singleton.mp hb, g5]; simp
    have L6 : PAt K true ⟨lp, ldx, ll, ld⟩ (upd H5 r (.ins (He.ga K "Midrow") dx (putF "high" (V.ref hp) (putF "low" (V.ref lp) (putF "whole" (V.int wh) (putF "part" (V.int pt) [])))))) ([], []) :=
      L5.fr (P := [r]) (fr_upd (by simp)) n5 (by simp [nlr]) (by simp [nllr]) (by simp [nldr])
    have R6 : PAt K false ⟨hp, hdx, hl, hd⟩ (upd H5 r (.ins (He.ga K "Midrow") dx (putF "high" (V.ref hp) (putF "low" (V.ref lp) (putF "whole" (V.int wh) (putF "part" (V.int pt) [])))))) ([], []) :=
      R5.fr (P := [r]) (fr_upd (by simp)) n5 (by simp [nhr]) (by simp [nhlr]) (by simp [nhdr])
    have f6 : ∀ b o, H4 b = some o → b ≠ r → (upd H5 r (.ins (He.ga K "Midrow") dx (putF "high" (V.ref hp) (putF "low" (V.ref lp) (putF "whole" (V.int wh) (putF "part" (V.int pt) [])))))) b = some o := fun b o e n => by rw [upd_ne n]; exact s5 _ _ e
    have g6 : (upd H5 r (.ins (He.ga K "Midrow") dx (putF "high" (V.ref hp) (putF "low" (V.ref lp) (putF "whole" (V.int wh) (putF "part" (V.int pt) [])))))) r = some (.ins (He.ga K "Midrow") dx (putF "high" (V.ref hp) (putF "low" (V.ref lp) (putF "whole" (V.int wh) (putF "part" (V.int pt) []))))) := upd_same
    walk_at "rd"
    intro nd hnd
    revert hnd L6 R6 f6 g6
    generalize upd H5 r (.ins (He.ga K "Midrow") dx (putF "high" (V.ref hp) (putF "low" (V.ref lp) (putF "whole" (V.int wh) (putF "part" (V.int pt) []))))) = H6
    intro L6 R6 f6 g6 hnd
    have s7 := same_new (o := .dK []) hnd
    have nnr : nd ≠ r := fun e => by rw [e, g6] at hnd; cases hnd
    refine setR.mk (s7 _ _ g6) T.cl_Midrow T.na_Midrow_numbers (by show 4 < 1000; decide) ?_
    walk_at "rd"
    refine setR.mk upd_same T.cl_Midrow T.na_Midrow_came (by show 5 < 1000; decide) ?_
    rw [upd_upd]
    have L7 := L6.same s7
    have R7 := R6.same s7
    have g7 := s7 _ _ g6
    have n7 : NoTup (upd H6 nd (.dK [])) [r] := fun b hb xs => by rw [List.mem_singleton.mp hb, g7]; simp
    have fr7 : ∀ o, Fr [r] (upd H6 nd (.dK [])) (upd (upd H6 nd (.dK [])) r o) := fun o => fr_upd (by simp)
    have di : [r, nd, lp, ll, ld, hp, hl, hd].Nodup := by
      have a1 := ne_of_none L6.raw.ob hnd
      have a2 := ne_of_none L6.raw.li hnd
      have a3 := ne_of_none L6.raw.di hnd
      have a4 := ne_of_none R6.raw.ob hnd
      have a5 := ne_of_none R6.raw.li hnd
      have a6 := ne_of_none R6.raw.di hnd
      have b1 := L6.raw.npl
      have b2 := L6.raw.npd
      have b3 := L6.raw.nld
      have b4 := R6.raw.npl
      have b5 := R6.raw.npd
      have b6 := R6.raw.nld
      have c1 := ne_of_none L4.raw.ob hhp
      have c2 := ne_of_none L4.raw.li hhp
      have c3 := ne_of_none L4.raw.di hhp
      have c4 := ne_of_none L4.raw.ob hhl
      have c5 := ne_of_none L4.raw.li hhl
      have c6 := ne_of_none L4.raw.di hhl
      have c7 := ne_of_none L4.raw.ob hhd
      have c8 := ne_of_none L4.raw.li hhd
      have c9 := ne_of_none L4.raw.di hhd
      dsimp only at a1 a2 a3 a4 a5 a6 b1 b2 b3 b4 b5 b6 c1 c2 c3 c4 c5 c6 c7 c8 c9
      simp [nnr.symm, nlr.symm, nllr.symm, nldr.symm, nhr.symm, nhlr.symm, nhdr.symm, a1.symm, a2.symm, a3.symm, a4.symm, a5.symm, a6.symm, b1, b2, b3, b4, b5, b6, c1, c2, c3, c4, c5, c6, c7, c8, c9]
    have back4 : ∀ z, H4 z = none → z ≠ r → H z = none := fun z hz n => by
      cases e : H z with
      | none => rfl
      | some o => rw [f4 _ _ (f1 _ _ e n) n] at hz; cases hz
    have back6 : ∀ z, H6 z = none → z ≠ r → H z = none := fun z hz n => by
      cases e : H z with
      | none => rfl
      | some o => rw [f6 _ _ (f4 _ _ (f1 _ _ e n) n) n] at hz; cases hz
    refine hQ nB ⟨r, dx, ⟨lp, ldx, ll, ld⟩, ⟨hp, hdx, hl, hd⟩, nd⟩ _ rfl rfl ⟨?_, L7.fr (P := [r]) (fr7 _) n7 (by simp [nlr]) (by simp [nllr]) (by simp [nldr]), R7.fr (P := [r]) (fr7 _) n7 (by simp [nhr]) (by simp [nhlr]) (by simp [nhdr]), by rw [upd_ne nnr]; exact upd_same, di⟩ ?_ ?_
    · exact upd_same.trans (congrArg (fun z => some (HO.ins (He.ga K "Midrow") dx z)) (mf_new ⟨r, dx, ⟨lp, ldx, ll, ld⟩, ⟨hp, hdx, hl, hd⟩, nd⟩ pt wh))
    · intro b hb hbr
      simp only [PR, List.mem_cons, List.not_mem_nil, or_false] at hb
      rcases hb with rfl | rfl | rfl | rfl | rfl | rfl | rfl | rfl
      · exact absurd rfl hbr
      · exact back6 _ hnd nnr
      · exact back _ hlp
      · exact back _ hll
      · exact back _ hld
      · exact back4 _ hhp nhr
      · exact back4 _ hhl nhlr
      · exact back4 _ hhd nhdr
    · intro b o e n
      rw [upd_ne n]
      exact s7 _ _ (f6 _ _ (f4 _ _ (f1 _ _ e n) n) n)
theorem ok_Midrow_put (T : Tx K mg) (F_many_L : Fn P w K mg base 1 (He.ma K (He.ga K "Pile") "many") P_Pile_many (spMany K true)) (F_top_L : Fn P w K mg base 1 (He.ma K (He.ga K "Pile") "top") P_Pile_top (spTop K true)) (F_put_L : Fn P w K mg base 3 (He.ma K (He.ga K "Pile") "put") P_Pile_put (spPut K true)) (F_put_H : Fn P w K mg base 3 (He.ma K (He.ga K "Pile") "put") P_Pile_put (spPut K false))
    (F_Midrow_settle : Fn P w K mg base 4 (He.ma K (He.ga K "Midrow") "settle") P_Midrow_settle (spSettle K)) {fd : FuncData} (F : FnP K "put" "Midrow.put" s_Midrow_put (He.ma K (He.ga K "Midrow") "put") fd) : Fn P w K mg base 5 (He.ma K (He.ga K "Midrow") "put") P_Midrow_put (spRPut K) := by
  have Lt := pt_of T true
  have Ht := pt_of T false
  refine fn_ok F sc_Midrow_put (fun vs H Q E h => ?_) (fun _ _ _ _ _ _ us hl => match us, hl with | [_, _], _ => rfl) (fun cdv A outer s0 H vs Q E hr h => ?_)
  · obtain ⟨a, pt, wh, cm, lo, hi, ks, n, rfl, _⟩ := h
    rfl
  · obtain ⟨a, pt, wh, cm, lo, hi, ks, n, rfl, R, O, hle, hQ⟩ := h
    have hu := hu_of hr
    have hu0 := hr.units0
    refine ⟨_, (pss_cons (ps_fldaug (pv 0) pe_int in_add)
    (pss_cons (ps_set (i := 2) sc_Midrow_put.nd rfl (Or.inl rfl) (pe_tup (pa_cons (pv 1) (pa_cons (pe_fld (pv 0) rfl) pa_nil))))
    (pss_cons (ps_dput hu (pe_fld (pv 0) rfl) (pe_fld (pv 0) rfl) (pv 1) rfl)
    (pss_cons (ps_if (PW.pt (pw_and (pt_cmpR op_gt (pe_methF0 (pe_fld (pv 0) rfl) Lt.cl Lt.m_many F_many_L hr (fun _ => nopass)) pe_int (nomark _)) (pw_and1 (pt_cmpR (op_ltT hu0) (pv 2) (pe_methF0 (pe_fld (pv 0) rfl) Lt.cl Lt.m_top F_top_L hr (fun _ => nopass)) (nomark _))))) (pss_one (ps_expr (pe_methF (pe_fld (pv 0) rfl) Lt.cl Lt.m_put F_put_L hr (fun _ => nopass) (pa_cons (pv 2) pa_nil)))) (pss_one (ps_expr (pe_methF (pe_fld (pv 0) rfl) Ht.cl Ht.m_put F_put_H hr (fun _ => nopass) (pa_cons (pv 2) pa_nil)))))
    (pss_cons (ps_expr (pe_methF0 (pv 0) T.cl_Midrow T.m_Midrow_settle F_Midrow_settle hr (fun _ => nopass)))
    (pss_one (ps_ret (pe_fld (pv 0) rfl)))))))), ?_⟩
    rw [show start N_Midrow_put [V.ref a.r, V.int n] = [some (V.ref a.r), some (V.int n), none] from rfl]
    walk_at "rd"
    refine augR.mk R.ob T.cl_Midrow T.na_Midrow_came (mf_came _ _ _ _) ?_
    refine ⟨cm, 1, rfl, rfl, a.dx, _, R.ob, by show 6 < 1000; decide, ?_⟩
    rw [mf_putcame]
    have d := nod2 R.di
    simp only [List.pairwise_cons, List.mem_cons, List.not_mem_nil, or_false, false_or, forall_eq_or_imp, forall_eq, and_true, List.Pairwise.nil, false_imp_iff, implies_true, forall_const] at d
    have nR : NoTup H [a.r] := R.notup.mono (by simp)
    have f1 : Fr [a.r] H (upd H a.r (.ins (He.ga K "Midrow") a.dx (mf a pt wh (cm + 1)))) := fr_upd (by simp)
    have R1 : RwAt K a (upd H a.r (.ins (He.ga K "Midrow") a.dx (mf a pt wh (cm + 1)))) pt wh (cm + 1) lo hi ks :=
      ⟨upd_same, R.lo.fr f1 nR (by first | (simp [d]; done) | grind) (by first | (simp [d]; done) | grind) (by first | (simp [d]; done) | grind), R.hi.fr f1 nR (by first | (simp [d]; done) | grind) (by first | (simp [d]; done) | grind) (by first | (simp [d]; done) | grind), f1 _ _ R.nu (by first | (simp [d]; done) | grind), R.di⟩
    revert f1 R1
    generalize upd H a.r (.ins (He.ga K "Midrow") a.dx (mf a pt wh (cm + 1))) = H1
    intro f1 R1
    walk_at "rd"
    refine fldR.mk R1.ob T.cl_Midrow T.na_Midrow_came (mf_came _ _ _ _) fun p hp => ?_
    have s2 := same_new (o := .tup [V.int n, V.int (cm + 1)]) hp
    have hx2 : (upd H1 p (.tup [V.int n, V.int (cm + 1)])) p = some (tV (n, cm + 1)) := upd_same
    have R2 := R1.same s2
    have hpP := R1.alive hp
    revert s2 hx2 R2
    generalize upd H1 p (.tup [V.int n, V.int (cm + 1)]) = H2
    intro s2 hx2 R2
    refine fldR.mk R2.ob T.cl_Midrow T.na_Midrow_numbers (mf_numbers _ _ _ _) (fldR.mk R2.ob T.cl_Midrow T.na_Midrow_came (mf_came _ _ _ _) ?_)
    have hnew : cm + 1 ∉ ks.map (·.2) := fun m => by
      obtain ⟨t, ht, q⟩ := List.mem_map.mp m
      have := (O.cmb t ht).2
      have q : t.2 = cm + 1 := q
      omega
    refine dpR.mk R2.nu (by rw [numK, List.length_map]; omega) ?_
    rw [numK_put hnew]
    have f3 : Fr [a.nd] H2 (upd H2 a.nd (.dK (numK (ks ++ [(n, cm + 1)])))) := fr_upd (by simp)
    have n3 : NoTup H2 [a.nd] := R2.notup.mono (by simp)
    have R3 : RwAt K a (upd H2 a.nd (.dK (numK (ks ++ [(n, cm + 1)])))) pt wh (cm + 1) lo hi (ks ++ [(n, cm + 1)]) :=
      ⟨f3 _ _ R2.ob (by first | (simp [d]; done) | grind), R2.lo.fr f3 n3 (by first | (simp [d]; done) | grind) (by first | (simp [d]; done) | grind) (by first | (simp [d]; done) | grind), R2.hi.fr f3 n3 (by first | (simp [d]; done) | grind) (by first | (simp [d]; done) | grind) (by first | (simp [d]; done) | grind), upd_same, R.di⟩
    have hx3 := tup_fr f3 n3 hx2
    have ft : Fr (PR a) H (upd H2 a.nd (.dK (numK (ks ++ [(n, cm + 1)])))) := (f1.mono (by simp)).trans ((Fr.of_same s2).trans (f3.mono (by simp)))
    revert R3 hx3 ft
    generalize upd H2 a.nd (.dK (numK (ks ++ [(n, cm + 1)]))) = H3
    intro R3 hx3 ft
    have nM : ∀ m : Str, (m == ("part" : Str)) = false → (m == ("whole" : Str)) = false → (m == ("low" : Str)) = false → (m == ("high" : Str)) = false → (m == ("numbers" : Str)) = false → (m == ("came" : Str)) = false → (mf a pt wh (cm + 1)).lookup m = none := fun m h1 h2 h3 h4 h5 h6 => mf_no _ _ _ _ ⟨h1, h2, h3, h4, h5, h6⟩
    have noX : ∀ (a : PA) (z : Int) (m : Str), (m == ("things" : Str)) = false → (m == ("where" : Str)) = false → (m == ("heavy" : Str)) = false → (pf a.l a.d z).lookup m = none := fun a z m h1 h2 h3 => pf_no _ _ _ h1 h2 h3
    have htot := O.tot
    have lks : (ks ++ [(n, cm + 1)]).length = ks.length + 1 := by simp
    obtain ⟨p1, p2⟩ := place_succ (m := (ks.length : Int)) (by omega) O.sh
    have olen := O.len
    have ndAll := O.ndE
    have newIn : ∀ e : En, (e ∈ lo.1 ∨ e ∈ hi.1) → e.2.2 ≠ cm + 1 := fun e he q => by
      have m : e.2 ∈ ks := O.mem.mpr (he.elim (fun z => .inl ⟨e, z, rfl⟩) fun z => .inr ⟨e, z, rfl⟩)
      have := (O.cmb _ m).2
      omega
    -- behind the put: settle, and the coming
    have fin : ∀ lo1 hi1 H4, RwAt K a H4 pt wh (cm + 1) lo1 hi1 (ks ++ [(n, cm + 1)]) → (∀ x ∈ lo1.1, ∀ y ∈ hi1.1, lt2 x.2 y.2 = true) → (lo1.1 ++ hi1.1).Perm ((p, (n, cm + 1)) :: (lo.1 ++ hi.1)) →
        (lo1.1.length = lo.1.length ∨ lo1.1.length = lo.1.length + 1) → df lo.1 lo1.1 ≤ bl ks.length → df hi.1 hi1.1 ≤ bl ks.length → Fr (PR a) H H4 →
        metR (He.ga K "Midrow") "settle" (V.ref a.r) H4 (spSettle K [V.ref a.r] H4 (fun x H1 => fldR K "came" (V.ref a.r) H1 Q) E0) := fun lo1 hi1 H4 R4 o4 pm4 l4 d1 d2 f4 => by
      have tl4 := pm4.length_eq
      simp only [List.length_append, List.length_cons] at tl4
      refine metR.mk R4.ob (nM _ (by decide +kernel) (by decide +kernel) (by decide +kernel) (by decide +kernel) (by decide +kernel) (by decide +kernel)) ?_
      refine ⟨a, pt, wh, cm + 1, lo1, hi1, ks ++ [(n, cm + 1)], rfl, R4, O.sh, O.pb, o4, ?_, by omega, by omega, fun due lo2 hi2 H5 hd R5 S5 f5 => ?_⟩
      · refine ((pm4.map (·.2.2)).nodup_iff).mpr (List.nodup_cons.mpr ⟨fun m => ?_, ndAll⟩)
        obtain ⟨e, he, q⟩ := List.mem_map.mp m
        exact newIn e (List.mem_append.mp he) q
      · refine fldR.mk R5.ob T.cl_Midrow T.na_Midrow_came (mf_came _ _ _ _) ?_
        have hd2 := hd
        rw [lks] at hd
        have hd' : placeM ((ks.length : Int) + 1) pt wh = (due : Int) := by rw [← hd]; rfl
        have one := S5.one (by omega) (by omega)
        have l5 := S5.len
        have t5 := S5.pm.length_eq
        simp only [List.length_append] at t5
        have pv : (vl lo1.1 ++ vl hi1.1).Perm (ks ++ [(n, cm + 1)]) := by
          have z := pm4.map (·.2)
          rw [List.map_append, List.map_cons, List.map_append] at z
          exact z.trans ((List.Perm.cons _ O.pm).trans (List.perm_append_comm (l₁ := [(n, cm + 1)])))
        refine hQ lo2 hi2 H5 R5 (S5.rw O pv ?_ ?_ (by have := O.cm0; omega) hd2) (df4 d1 (Nat.le_trans one.1 (bl_mono (by omega))) (by omega) (by omega)) (df4 d2 (Nat.le_trans one.2 (bl_mono (by omega))) (by omega) (by omega)) (f4.trans (f5.mono (by simp)))
        · rw [List.map_append]
          exact nd_snoc O.nd hnew
        · intro t ht
          rcases List.mem_append.mp ht with z | z
          · have := O.cmb t z
            omega
          · rw [List.mem_singleton.mp z]
            have := O.cm0
            exact ⟨by show 1 ≤ cm + 1; omega, Int.le_refl _⟩
    have toHigh : (∀ x ∈ lo.1, lt2 x.2 (n, cm + 1) = true) → ∀ H4, Same H3 H4 → fldR K "high" (V.ref a.r) H4 fun x H1 => metR (pC K false) "put" x H1 (spPut K false [x, V.ref p] H1 (fun x_1 H1 => metR (He.ga K "Midrow") "settle" (V.ref a.r) H1 (spSettle K [V.ref a.r] H1 (fun x H1 => fldR K "came" (V.ref a.r) H1 Q) E0)) E0) := fun ho H4 s4 => by
      have R4 := R3.same s4
      refine fldR.mk R4.ob T.cl_Midrow T.na_Midrow_high (mf_high _ _ _ _) (metR.mk R4.hi.raw.ob (noX _ _ _ (by decide +kernel) (by decide +kernel) (by decide +kernel)) ?_)
      refine hPut (x := (p, (n, cm + 1))) R4.hi (s4 _ _ hx3) (by omega) (fun ⟨y, hy, q⟩ => absurd q (newIn y (.inr hy))) fun _ hi1 H5 L5 p5 d5 f5 => ?_
      obtain ⟨R5, g5⟩ := R4.setHi L5 f5
      refine fin lo hi1 H5 R5 (fun x hx y hy => ?_) ((List.Perm.append_left _ p5).trans List.perm_middle) (.inl rfl) (by rw [df_self]; omega) (Nat.le_trans d5 (bl_mono (by omega))) (ft.trans ((Fr.of_same s4).trans (g5.mono (by simp))))
      rcases List.mem_cons.mp (p5.mem_iff.mp hy) with q | q
      · rw [q]; exact ho x hx
      · exact O.ord x hx y q
    walk_at "rd"
    refine fldR.mk R3.ob T.cl_Midrow T.na_Midrow_low (mf_low _ _ _ _) (metR.mk R3.lo.raw.ob (noX _ _ _ (by decide +kernel) (by decide +kernel) (by decide +kernel)) (hMany R3.lo ⟨_, rfl, ?_⟩))
    refine ite2 (fun c1 => ?_) (fun c1 => toHigh (fun x hx => by
      have : lo.1 = [] := List.eq_nil_of_length_eq_zero (by omega)
      rw [this] at hx
      cases hx) H3 fun _ _ e => e)
    refine fldR.mk R3.ob T.cl_Midrow T.na_Midrow_low (mf_low _ _ _ _) (metR.mk R3.lo.raw.ob (noX _ _ _ (by decide +kernel) (by decide +kernel) (by decide +kernel)) ?_)
    refine hTop R3.lo (fun z => by rw [z] at c1; simp at c1) fun e he htop H4 s4 => ?_
    have hem : e ∈ lo.1 := mem_iff_get.mpr ⟨0, he⟩
    have R4 := R3.same s4
    refine ⟨_, _, [n, cm + 1], [e.2.1, e.2.2], rfl, rfl, SqT.of (s4 _ _ hx3), SqT.of (R4.lo.tup e hem), ?_⟩
    rw [show HT.lexLt [n, cm + 1] [e.2.1, e.2.2] = lt2 (n, cm + 1) e.2 from lex_ah (n, cm + 1) e.2]
    have htop : ∀ x ∈ lo.1, lt2 e.2 x.2 = false := fun x hx => htop x hx
    cases hlt : lt2 (n, cm + 1) e.2 with
    | false =>
      refine ⟨_, rfl, iteF (toHigh (fun x hx => ?_) H4 s4)⟩
      exact lt2_of (lt2_ntr hlt (htop x hx)) (fun q => newIn x (.inl hx) q)
    | true =>
      refine ⟨_, rfl, iteT ?_⟩
      refine fldR.mk R4.ob T.cl_Midrow T.na_Midrow_low (mf_low _ _ _ _) (metR.mk R4.lo.raw.ob (noX _ _ _ (by decide +kernel) (by decide +kernel) (by decide +kernel)) ?_)
      refine hPut (x := (p, (n, cm + 1))) R4.lo (s4 _ _ hx3) (by omega) (fun ⟨y, hy, q⟩ => absurd q (newIn y (.inl hy))) fun _ lo1 H5 L5 p5 d5 f5 => ?_
      obtain ⟨R5, g5⟩ := R4.setLo L5 f5
      have l5 := p5.length_eq
      simp only [List.length_cons] at l5
      refine fin lo1 hi H5 R5 (fun x hx y hy => ?_) ((List.Perm.append_right _ p5)) (.inr l5) (Nat.le_trans d5 (bl_mono (by omega))) (by rw [df_self]; omega) (ft.trans ((Fr.of_same s4).trans (g5.mono (by simp))))
      rcases List.mem_cons.mp (p5.mem_iff.mp hx) with q | q
      · rw [q]
        have h1 := O.ord e hem y hy
        rw [lt2_iff] at hlt h1 ⊢
        show n < y.2.1 ∨ (n = y.2.1 ∧ cm + 1 < y.2.2)
        have hlt : n < e.2.1 ∨ (n = e.2.1 ∧ cm + 1 < e.2.2) := hlt
        omega
      · exact O.ord x q y hy
theorem ok_Midrow_take (T : Tx K mg) (F_take_L_ctx : FnN P w K mg base 3 (He.ma K (He.ga K "Pile") "take") P_Pile_take (spTake K true)) (F_take_H_hot : FnHs P w K mg base 3 (He.ma K (He.ga K "Pile") "take") P_Pile_take (spTake K false))
    (F_Midrow_settle : Fn P w K mg base 4 (He.ma K (He.ga K "Midrow") "settle") P_Midrow_settle (spSettle K)) {fd : FuncData} (F : FnP K "take" "Midrow.take" s_Midrow_take (He.ma K (He.ga K "Midrow") "take") fd) : Fn P w K mg base 5 (He.ma K (He.ga K "Midrow") "take") P_Midrow_take (spRTake K) := by
  have Lt := pt_of T true
  have Ht := pt_of T false
  refine fn_okX F sc_Midrow_take (fun vs H Q E h => ?_) (fun _ _ _ _ _ _ us hl => match us, hl with | [_, _], _ => rfl) (fun cdv A outer s0 H vs Q E hr h => ?_)
  · obtain ⟨a, pt, wh, cm, lo, hi, ks, c, rfl, _⟩ := h
    rfl
  · obtain ⟨a, pt, wh, cm, lo, hi, ks, c, rfl, R, O, hle, hE, hQ⟩ := h
    have hu := hu_of hr
    have hu0 := hr.units0
    refine ⟨_, (pss_cons (L2H.ps_try_onlyX (Wout := fun cls d _ H' => E cls d H') rfl rfl ⟨rfl, by decide, Or.inl T.g_NoThing⟩ (fun hd => L2H.passesAt_of rfl hd) (takes_of rfl rfl rfl rfl)
      (fun W pn xe tk tkp _ => (pss_one (ps_set (i := 2) sc_Midrow_take.nd rfl (Or.inl rfl) (pe_methFN (pe_fldK (K := K) rfl (pv 0) rfl) Lt.cl Lt.m_take F_take_L_ctx hr (fun σ => L2N.passAt tk σ) (pa_cons (pv 1) pa_nil)))))
      (fun a oe cls d pn hz hf tkS hot => (pss_one (ps_set (i := 2) sc_Midrow_take.nd rfl (Or.inl rfl) (pe_methFH (pe_fldK (K := K) rfl (pv 0) rfl) Ht.cl Ht.m_take F_take_H_hot (show L2H.RoomH 4 _ from ⟨hr.dp, hr.un⟩) hot (fun σ => passAt tkS σ) (pa_cons (pv 1) pa_nil))))))
    (pss_cons (ps_expr (pe_dpop1 (pe_fld (pv 0) rfl) (pv 1) ⟨by rfl, by rfl, by rfl, by rfl⟩))
    (pss_cons (ps_expr (pe_methF0 (pv 0) T.cl_Midrow T.m_Midrow_settle F_Midrow_settle hr (fun _ => nopass)))
    (pss_one (ps_ret (pe_ix ix_tup (pv 2) pe_int (fun _ _ => rfl))))))), ?_⟩
    rw [show start N_Midrow_take [V.ref a.r, V.int c] = [some (V.ref a.r), some (V.int c), none] from rfl]
    walk_at "rd"
    have nM : ∀ m : Str, (m == ("part" : Str)) = false → (m == ("whole" : Str)) = false → (m == ("low" : Str)) = false → (m == ("high" : Str)) = false → (m == ("numbers" : Str)) = false → (m == ("came" : Str)) = false → (mf a pt wh cm).lookup m = none := fun m h1 h2 h3 h4 h5 h6 => mf_no _ _ _ _ ⟨h1, h2, h3, h4, h5, h6⟩
    have noX : ∀ (a : PA) (z : Int) (m : Str), (m == ("things" : Str)) = false → (m == ("where" : Str)) = false → (m == ("heavy" : Str)) = false → (pf a.l a.d z).lookup m = none := fun a z m h1 h2 h3 => pf_no _ _ _ h1 h2 h3
    have d := nod2 R.di
    simp only [List.pairwise_cons, List.mem_cons, List.not_mem_nil, or_false, false_or, forall_eq_or_imp, forall_eq, and_true, List.Pairwise.nil, false_imp_iff, implies_true, forall_const] at d
    have htot := O.tot
    have olen := O.len
    have ndAll := O.ndE
    -- behind the take of e: numbers, settle, the number
    have fin : ∀ (e : En) lo1 hi1 H4, e ∈ lo.1 ++ hi.1 → e.2.2 = c → RwAt K a H4 pt wh cm lo1 hi1 ks → (e :: (lo1.1 ++ hi1.1)).Perm (lo.1 ++ hi.1) → (∀ x ∈ lo1.1, ∀ y ∈ hi1.1, lt2 x.2 y.2 = true) →
        (lo1.1.length = lo.1.length ∨ lo1.1.length + 1 = lo.1.length) → df lo.1 lo1.1 ≤ bl ks.length → df hi.1 hi1.1 ≤ bl ks.length → Fr (PRp a) H H4 →
        fldR K "numbers" (V.ref a.r) H4 fun x H1 => popR x H1 (fun H R => R (V.int c) H) fun x_2 H1 => metR (He.ga K "Midrow") "settle" (V.ref a.r) H1 (spSettle K [V.ref a.r] H1 (fun x_3 H1 => rIxT K (V.ref e.1) (V.int 0) H1 Q) E0) := fun e lo1 hi1 H4 hem hec R4 pm4 o4 l4 d1 d2 f4 => by
      have tl4 := pm4.length_eq
      simp only [List.length_append, List.length_cons] at tl4
      have hek : e.2 ∈ ks := O.mem.mpr ((List.mem_append.mp hem).elim (fun z => .inl ⟨e, z, rfl⟩) fun z => .inr ⟨e, z, rfl⟩)
      obtain ⟨i, hi'⟩ := mem_iff_get.mp hek
      have hik := lt_of_get hi'
      have hv := numK_some O.nd hek
      rw [hec] at hv
      refine fldR.mk R4.ob T.cl_Midrow T.na_Midrow_numbers (mf_numbers _ _ _ _) ⟨a.nd, rfl, .inl ⟨_, .inl R4.nu⟩, _, Sum.inl c, _, R4.nu, rfl, hv, ?_⟩
      have hdrop : dropK (numK ks) (Sum.inl c) = numK (ks.eraseIdx i) := by rw [← hec]; exact numK_drop O.nd hi'
      rw [hdrop]
      have f5 : Fr [a.nd] H4 (upd H4 a.nd (.dK (numK (ks.eraseIdx i)))) := fr_upd (by simp)
      have n5 : NoTup H4 [a.nd] := R4.notup.mono (by simp)
      have R5 : RwAt K a (upd H4 a.nd (.dK (numK (ks.eraseIdx i)))) pt wh cm lo1 hi1 (ks.eraseIdx i) :=
        ⟨f5 _ _ R4.ob (by first | (simp [d]; done) | grind), R4.lo.fr f5 n5 (by first | (simp [d]; done) | grind) (by first | (simp [d]; done) | grind) (by first | (simp [d]; done) | grind), R4.hi.fr f5 n5 (by first | (simp [d]; done) | grind) (by first | (simp [d]; done) | grind) (by first | (simp [d]; done) | grind), upd_same, R.di⟩
      have le := List.length_eraseIdx_of_lt hik
      have ht5 : (upd H4 a.nd (.dK (numK (ks.eraseIdx i)))) e.1 = some (tV e.2) := by
        have z : H e.1 = some (tV e.2) := (List.mem_append.mp hem).elim (fun z => R.lo.tup e z) fun z => R.hi.tup e z
        exact tup_fr f5 n5 (tup_fr f4 (R.notup.mono (by simp)) z)
      have f05 : Fr (PR a) H (upd H4 a.nd (.dK (numK (ks.eraseIdx i)))) := (f4.mono (by simp)).trans (f5.mono (by simp))
      revert R5 ht5 f05
      generalize upd H4 a.nd (.dK (numK (ks.eraseIdx i))) = H5
      intro R5 ht5 f05
      refine metR.mk R5.ob (nM _ (by decide +kernel) (by decide +kernel) (by decide +kernel) (by decide +kernel) (by decide +kernel) (by decide +kernel)) ?_
      obtain ⟨p1, p2⟩ := place_succ (m := ((ks.length - 1 : Nat) : Int)) (by omega) O.sh
      have ek : ((ks.length - 1 : Nat) : Int) + 1 = (ks.length : Int) := by omega
      rw [ek] at p1 p2
      have nd1 : ((e :: (lo1.1 ++ hi1.1)).map (·.2.2)).Nodup := (pm4.map (·.2.2)).nodup_iff.mpr ndAll
      refine ⟨a, pt, wh, cm, lo1, hi1, ks.eraseIdx i, rfl, R5, O.sh, O.pb, o4, (List.nodup_cons.mp nd1).2, by omega, by omega, fun due lo2 hi2 H6 hd R6 S6 f6 => ?_⟩
      have hd' := hd
      rw [le] at hd
      have one := S6.one (by omega) (by omega)
      have l6 := S6.len
      have t6 := S6.pm.length_eq
      simp only [List.length_append] at t6
      have pk : ks.Perm (e.2 :: ks.eraseIdx i) := perm_erase hi'
      have pv : (vl lo1.1 ++ vl hi1.1).Perm (ks.eraseIdx i) := by
        have z := pm4.map (·.2)
        rw [List.map_cons, List.map_append, List.map_append] at z
        exact List.Perm.cons_inv (z.trans (O.pm.trans pk))
      have ndk := (pk.map (·.2)).nodup_iff.mp O.nd
      refine ixT0 (n := e.2.1) (c := e.2.2) (tup_fr f6 (R5.notup.mono (by simp)) ht5) ?_
      refine hQ i e.2 hi' hec lo2 hi2 H6 R6 (S6.rw O pv (List.nodup_cons.mp ndk).2 (fun t ht => O.cmb t (List.mem_of_mem_eraseIdx ht)) O.cm0 hd') (df4 d1 (Nat.le_trans one.1 (bl_mono (by omega))) (by omega) (by omega)) (df4 d2 (Nat.le_trans one.2 (bl_mono (by omega))) (by omega) (by omega)) (f05.trans (f6.mono (by simp)))
    refine fldR.mk R.ob T.cl_Midrow T.na_Midrow_low (mf_low _ _ _ _) (metR.mk R.lo.raw.ob (noX _ _ _ (by decide +kernel) (by decide +kernel) (by decide +kernel)) ?_)
    refine hTake R.lo (by omega) (fun hno => ?_) fun e hem hec lo1 H4 L4 p4 d4 f4 => ?_
    · refine ⟨true, T.es_NoThing, fun _ ea hea => ?_, fun z => nomatch z⟩
      walk_at "rd"
      refine fldR.mk R.ob T.cl_Midrow T.na_Midrow_high (mf_high _ _ _ _) (metR.mk R.hi.raw.ob (noX _ _ _ (by decide +kernel) (by decide +kernel) (by decide +kernel)) ?_)
      refine hTake R.hi (by omega) (fun hno2 => hE fun m => ?_) fun e hem hec hi1 H4 L4 p4 d4 f4 => ?_
      · obtain ⟨t, ht, q⟩ := List.mem_map.mp m
        rcases O.mem.mp ht with ⟨e, he, q2⟩ | ⟨e, he, q2⟩
        · exact hno e he (by rw [q2]; exact q)
        · exact hno2 e he (by rw [q2]; exact q)
      · obtain ⟨R4, g4⟩ := R.setHi L4 f4
        have p4' := p4.mem_iff (a := e)
        refine fin e lo hi1 H4 (List.mem_append_right _ hem) hec R4 (List.perm_middle.symm.trans (List.Perm.append_left _ p4)) (fun x hx y hy => O.ord x hx y (p4.mem_iff.mp (List.mem_cons_of_mem _ hy))) (.inl rfl) (by rw [df_self]; omega) (Nat.le_trans d4 (bl_mono (by omega))) g4
    · obtain ⟨R4, g4⟩ := R.setLo L4 f4
      have l4 := p4.length_eq
      simp only [List.length_cons] at l4
      exact fin e lo1 hi H4 (List.mem_append_left _ hem) hec R4 (List.Perm.append_right _ p4) (fun x hx y hy => O.ord x (p4.mem_iff.mp (List.mem_cons_of_mem _ hx)) y hy) (.inr l4) (Nat.le_trans d4 (bl_mono (by omega))) (by rw [df_self]; omega) g4
theorem ok_Midrow_number_of (T : Tx K mg) {fd : FuncData} (F : FnP K "number_of" "Midrow.number_of" s_Midrow_number_of (He.ma K (He.ga K "Midrow") "number_of") fd) : Fn P w K mg base 1 (He.ma K (He.ga K "Midrow") "number_of") P_Midrow_number_of (spRNum K) := by
  refine fn_okX F sc_Midrow_number_of (fun vs H Q E h => ?_) (fun _ _ _ _ _ _ us hl => match us, hl with | [_, _], _ => rfl) (fun cdv A outer s0 H vs Q E hr h => ?_)
  · obtain ⟨a, pt, wh, cm, lo, hi, ks, c, rfl, _⟩ := h
    rfl
  · obtain ⟨a, pt, wh, cm, lo, hi, ks, c, rfl, R, nd, hE, hQ⟩ := h
    have hu := hu_of hr
    refine ⟨_, (pss_cons (ps_if (pt_cmp (pc_dnotin hu (pv 1) (pe_fld (pv 0) rfl))) (pss_one (ps_raise rfl (takes_of rfl rfl rfl rfl) (pmk_own PySem.F.excBase_ValueError T.xc_NoThing.1 T.g_NoThing T.xc_NoThing.2.1 (raises_own T.xc_NoThing.2.2.1 T.xc_NoThing.2.2.2) rfl))) pss_nil)
    (pss_one (ps_ret (pe_dget hu (pe_fld (pv 0) rfl) (pv 1) (fun _ _ => rfl))))), ?_⟩
    rw [show start N_Midrow_number_of [V.ref a.r, V.int c] = [some (V.ref a.r), some (V.int c)] from rfl]
    walk_at "rd"
    refine fldR.mk R.ob T.cl_Midrow T.na_Midrow_numbers (mf_numbers _ _ _ _) (diR.mk R.nu ?_)
    by_cases m : c ∈ ks.map (·.2)
    · obtain ⟨t, ht, q⟩ := List.mem_map.mp m
      have e := numK_some nd ht
      have q : t.2 = c := q
      rw [q] at e
      rw [e]
      exact (if_neg (by simp)).mpr (fldR.mk R.ob T.cl_Midrow T.na_Midrow_numbers (mf_numbers _ _ _ _) (dgR.mk R.nu e (hQ t ht q)))
    · rw [numK_none m]
      exact (if_pos rfl).mpr (hE m)

theorem ok_Midrow_oldest (T : Tx K mg) {fd : FuncData} (F : FnP K "oldest" "Midrow.oldest" s_Midrow_oldest (He.ma K (He.ga K "Midrow") "oldest") fd) : Fn P w K mg base 1 (He.ma K (He.ga K "Midrow") "oldest") P_Midrow_oldest (spROld K) := by
  refine fn_okX F sc_Midrow_oldest (fun vs H Q E h => ?_) (fun _ _ _ _ _ _ us hl => match us, hl with | [_], _ => rfl) (fun cdv A outer s0 H vs Q E hr h => ?_)
  · obtain ⟨a, pt, wh, cm, lo, hi, ks, rfl, _⟩ := h
    rfl
  · obtain ⟨a, pt, wh, cm, lo, hi, ks, rfl, R, hE, hQ⟩ := h
    have hu := hu_of hr
    refine ⟨_, (pss_cons (ps_lock (ps_for PassesOwn.leaving rfl (pi_keys (pe_fld (pv 0) rfl)) (pg_name (i := 1) sc_Midrow_oldest.nd rfl (Or.inl rfl)) (pss_one (ps_ret (pv 1)))))
    (pss_one (ps_raise rfl (takes_of rfl rfl rfl rfl) (pmk_own PySem.F.excBase_ValueError T.xc_Empty.1 T.g_Empty T.xc_Empty.2.1 (raises_own T.xc_Empty.2.2.1 T.xc_Empty.2.2.2) rfl)))), ?_⟩
    rw [show start N_Midrow_oldest [V.ref a.r] = [some (V.ref a.r), none] from rfl]
    walk_at "rd"
    have dn : a.r ≠ a.nd := ne_of R.ob R.nu fun z => by cases z
    refine ⟨a.nd, _, R.nu, trivial, fun od => ?_⟩
    have uid : upd (upd H a.nd (.frz od (.dK (numK ks)))) a.nd (.dK (numK ks)) = H := by
      rw [upd_upd]
      funext b
      by_cases q : b = a.nd
      · rw [q, upd_same, R.nu]
      · rw [upd_ne q]
    have g1 : (upd H a.nd (.frz od (.dK (numK ks)))) a.r = some (.ins (He.ga K "Midrow") a.dx (mf a pt wh cm)) := by rw [upd_ne dn]; exact R.ob
    refine ⟨_, rfl, a.r, _, _, _, _, rfl, g1, T.cl_Midrow, T.na_Midrow_numbers, mf_numbers _ _ _ _, ?_⟩
    refine ⟨a.nd, od, rfl, .inl ⟨numK ks, upd_same, ?_⟩⟩
    refine for_it walk_keys (fun i σ H' => i = 0 ∧ H' = upd H a.nd (.frz od (.dK (numK ks))) ∧ σ = [some (V.ref a.r), none]) ⟨rfl, rfl, rfl⟩ ?_ ?_ ?_
    · rintro i σ H' _ ⟨_, rfl, _⟩
      exact upd_same
    · rintro i x σ H' H2 hi ⟨rfl, rfl, rfl⟩ ⟨rfl, k, v, hk, rfl⟩
      cases hks : ks[0]? with
      | none =>
        rw [numK, List.getElem?_map, hks] at hk
        cases hk
      | some t =>
        rw [numK, List.getElem?_map, hks] at hk
        cases hk
        refine ⟨_, rfl, upd_same, ?_⟩
        rw [uid]
        exact hQ t hks
    · rintro σ H' ⟨h0, rfl, rfl⟩
      refine ⟨upd_same, ?_⟩
      rw [uid]
      exact hE (List.eq_nil_of_length_eq_zero (by rw [numK, List.length_map] at h0; exact h0))

theorem ok_Midrow_share (T : Tx K mg) (F_top_L : Fn P w K mg base 1 (He.ma K (He.ga K "Pile") "top") P_Pile_top (spTop K true)) {fd : FuncData} (F : FnP K "share" "Midrow.share" s_Midrow_share (He.ma K (He.ga K "Midrow") "share") fd) : Fn P w K mg base 2 (He.ma K (He.ga K "Midrow") "share") P_Midrow_share (spRShare K) := by
  have Lt := pt_of T true
  refine fn_okX F sc_Midrow_share (fun vs H Q E h => ?_) (fun _ _ _ _ _ _ us hl => match us, hl with | [_], _ => rfl) (fun cdv A outer s0 H vs Q E hr h => ?_)
  · obtain ⟨a, pt, wh, cm, lo, hi, ks, rfl, _⟩ := h
    rfl
  · obtain ⟨a, pt, wh, cm, lo, hi, ks, rfl, R, hE, hQ⟩ := h
    refine ⟨_, (pss_one (ps_ret (pe_methF0 (pe_fld (pv 0) rfl) Lt.cl Lt.m_top F_top_L hr (fun σ => passAt (takes_of rfl rfl rfl rfl) σ)))), ?_⟩
    rw [show start N_Midrow_share [V.ref a.r] = [some (V.ref a.r)] from rfl]
    walk_at "rd"
    exact fldR.mk R.ob T.cl_Midrow T.na_Midrow_low (mf_low _ _ _ _) (metR.mk R.lo.raw.ob (pf_no _ _ _ (by decide +kernel) (by decide +kernel) (by decide +kernel)) (hTop R.lo hE fun e he h H' s' => hQ e he (fun x hx => h x hx) H' s'))

theorem ok_Midrow_piles (T : Tx K mg) (F_told_L : Fn P w K mg base 1 (He.ma K (He.ga K "Pile") "told") P_Pile_told (spTold K true)) (F_told_H : Fn P w K mg base 1 (He.ma K (He.ga K "Pile") "told") P_Pile_told (spTold K false)) {fd : FuncData} (F : FnP K "piles" "Midrow.piles" s_Midrow_piles (He.ma K (He.ga K "Midrow") "piles") fd) : Fn P w K mg base 2 (He.ma K (He.ga K "Midrow") "piles") P_Midrow_piles (spRPiles K) := by
  have Lt := pt_of T true
  have Ht := pt_of T false
  refine fn_ok F sc_Midrow_piles (fun vs H Q E h => ?_) (fun _ _ _ _ _ _ us hl => match us, hl with | [_], _ => rfl) (fun cdv A outer s0 H vs Q E hr h => ?_)
  · obtain ⟨a, pt, wh, cm, lo, hi, ks, rfl, _⟩ := h
    rfl
  · obtain ⟨a, pt, wh, cm, lo, hi, ks, rfl, R, hQ⟩ := h
    refine ⟨_, (pss_one (ps_ret (pe_tup (pa_cons (pe_methF0 (pe_fld (pv 0) rfl) Lt.cl Lt.m_told F_told_L hr (fun _ => nopass)) (pa_cons (pe_methF0 (pe_fld (pv 0) rfl) Ht.cl Ht.m_told F_told_H hr (fun _ => nopass)) pa_nil))))), ?_⟩
    rw [show start N_Midrow_piles [V.ref a.r] = [some (V.ref a.r)] from rfl]
    walk_at "rd"
    refine fldR.mk R.ob T.cl_Midrow T.na_Midrow_low (mf_low _ _ _ _) (metR.mk R.lo.raw.ob (pf_no _ _ _ (by decide +kernel) (by decide +kernel) (by decide +kernel)) (hTold R.lo fun t1 h1 => ?_))
    have s1 := same_new (o := .lst (rf lo.1)) h1
    have R1 := R.same s1
    refine fldR.mk R1.ob T.cl_Midrow T.na_Midrow_high (mf_high _ _ _ _) (metR.mk R1.hi.raw.ob (pf_no _ _ _ (by decide +kernel) (by decide +kernel) (by decide +kernel)) (hTold R1.hi fun t2 h2 => ?_))
    intro q hq
    have s2 := same_new (o := .lst (rf hi.1)) h2
    have s3 := same_new (o := .tup [V.ref t1, V.ref t2]) hq
    have n1 : t1 ≠ t2 := fun e => by rw [← e, upd_same] at h2; cases h2
    exact hQ q t1 t2 _ (none_back s1 (none_back s2 hq)) h1 (none_back s1 h2) n1 upd_same (s3 _ _ (s2 _ _ upd_same)) (s3 _ _ upd_same) fun b o e => s3 _ _ (s2 _ _ (s1 _ _ e))

theorem ok_Midrow_turn (T : Tx K mg) (F_place : Fn P w K mg base 1 (He.ga K "place") P_place (spPlace K)) (F_Midrow_settle : Fn P w K mg base 4 (He.ma K (He.ga K "Midrow") "settle") P_Midrow_settle (spSettle K)) {fd : FuncData} (F : FnP K "turn" "Midrow.turn" s_Midrow_turn (He.ma K (He.ga K "Midrow") "turn") fd) : Fn P w K mg base 5 (He.ma K (He.ga K "Midrow") "turn") P_Midrow_turn (spRTurn K) := by
  refine fn_okX F sc_Midrow_turn (fun vs H Q E h => ?_) (fun _ _ _ _ _ _ us hl => match us, hl with | [_, _, _], _ => rfl) (fun cdv A outer s0 H vs Q E hr h => ?_)
  · obtain ⟨a, pt, wh, cm, lo, hi, ks, p2, w2, rfl, _⟩ := h
    rfl
  · obtain ⟨a, pt, wh, cm, lo, hi, ks, p2, w2, rfl, R, O, hle, bp, hE, hQ, hw⟩ := h
    refine ⟨_, (pss_cons (ps_expr (pe_callF F_place hr T.g_place (fun σ => passAt (takes_of rfl rfl rfl rfl) σ) (pa_cons pe_int (pa_cons (pv 1) (pa_cons (pv 2) pa_nil)))))
    (pss_cons (ps_fld (pv 0) (pv 1) rfl)
    (pss_cons (ps_fld (pv 0) (pv 2) rfl)
    (pss_one (ps_expr (pe_methF0 (pv 0) T.cl_Midrow T.m_Midrow_settle F_Midrow_settle hr (fun σ => passAt (takes_of rfl rfl rfl rfl) σ))))))), ?_⟩
    rw [show start N_Midrow_turn [V.ref a.r, V.int p2, V.int w2] = [some (V.ref a.r), some (V.int p2), some (V.int w2)] from rfl]
    walk_at "rd"
    refine ⟨0, p2, w2, rfl, ⟨by decide, bp⟩, hE, fun nB H1 s1 => ?_⟩
    have wb := hw.resolve_left nB
    have d := nod2 R.di
    simp only [List.pairwise_cons, List.mem_cons, List.not_mem_nil, or_false, false_or, forall_eq_or_imp, forall_eq, and_true, List.Pairwise.nil, false_imp_iff, implies_true, forall_const] at d
    have R1 := R.same s1
    refine setR.mk R1.ob T.cl_Midrow T.na_Midrow_part (by show 6 < 1000; decide) ?_
    walk_at "rd"
    refine setR.mk upd_same T.cl_Midrow T.na_Midrow_whole (by show 6 < 1000; decide) ?_
    rw [upd_upd, mf_putpart, mf_putwhole]
    have f2 : Fr [a.r] H1 (upd H1 a.r (.ins (He.ga K "Midrow") a.dx (mf a p2 w2 cm))) := fr_upd (by simp)
    have n2 : NoTup H1 [a.r] := R1.notup.mono (by simp)
    have R2 : RwAt K a (upd H1 a.r (.ins (He.ga K "Midrow") a.dx (mf a p2 w2 cm))) p2 w2 cm lo hi ks :=
      ⟨upd_same, R1.lo.fr f2 n2 (by first | (simp [d]; done) | grind) (by first | (simp [d]; done) | grind) (by first | (simp [d]; done) | grind), R1.hi.fr f2 n2 (by first | (simp [d]; done) | grind) (by first | (simp [d]; done) | grind) (by first | (simp [d]; done) | grind), f2 _ _ R1.nu (by first | (simp [d]; done) | grind), R.di⟩
    revert f2 R2
    generalize upd H1 a.r (.ins (He.ga K "Midrow") a.dx (mf a p2 w2 cm)) = H2
    intro f2 R2
    walk_at "rd"
    refine metR.mk R2.ob (mf_no _ _ _ _ ⟨by decide +kernel, by decide +kernel, by decide +kernel, by decide +kernel, by decide +kernel, by decide +kernel⟩) ?_
    refine ⟨a, p2, w2, cm, lo, hi, ks, rfl, R2, nB, bp, O.ord, O.ndE, O.tot, by omega, fun due lo2 hi2 H5 hd R5 S5 f5 => ?_⟩
    refine hQ nB wb lo2 hi2 H5 R5 ⟨S5.ord, ?_, O.nd, O.cmb, O.cm0, nB, bp, wb, by rw [hd, S5.len]⟩ ((Fr.of_same s1).trans ((f2.mono (by simp)).trans (f5.mono (by simp))))
    have p := S5.pm.map (·.2)
    rw [List.map_append, List.map_append] at p
    exact p.trans O.pm

end
end Mp

namespace Mp
open PySem PySem.Spec PyProof.Rows L2
local macro_rules | `(tactic| walk_at "rd") => `(tactic| try simp only [tSeq, tAsg, gName, tVar, tC, tOp, rI0, rI, tTest, tB, tIfS, tNext, tBreak, tCont, tRet, tRetN, tDrop, tCons, tNil, tCallS, tCB, tAnd, tOr, tNot, tAndV, tOrV, tNotV, tUn, rU, tIf, tChain, gCons, gNil, gSub, tFld_r, sFld_r, sFldAug_r, tDGet_r, tDIn_r, tDNotIn_r, sDPut_r, tDPop1_r, tMethF_r, tMakeF, tBits, tSl, tPart, tDNewK, cxOf_K, tBM, tBM0, tTup, tLst, List.length_cons, List.length_nil, Nat.reduceAdd, Nat.zero_add, PySem.sizeLine_eq, Nat.reduceLeDiff,
  List.getElem?_cons_zero, List.getElem?_cons_succ, Option.some.injEq, exists_eq_left', List.set_cons_zero, List.set_cons_succ, exists_eq_left, V.int.injEq, V.bl.injEq, V.ref.injEq, List.cons.injEq, and_true, true_and, and_assoc, exists_and_left, decide_eq_true_eq,
  rEq_int, rNe_int, cdiv_iff, cpow10, Int.reduceLT, Int.reduceLE, Int.reduceToNat, Int.reducePow, Int.reduceNeg, Int.reduceSub, Int.reduceAdd, Int.reduceMul, Nat.reducePow, Nat.reduceLT, Bool.not_eq_true', Bool.false_eq_true, if_true, if_false, not_true_eq_false, not_false_eq_true, ite_not, Bool.not_true, Bool.not_false, reduceCtorEq, ipI, tAug, isi_int_int, isi_int_bool, isi_bool_bool, Bool.true_eq_false, reduceIte])
local macro_rules | `(tactic| walk_at "fo") => `(tactic| try simp only [tFor_enum, tFor_zip, tFor_list, tFor_r1])
local macro_rules | `(tactic| walk_at "mk") => `(tactic| try simp only [tMake, tCallSD, List.nil_append, List.cons_append, List.append_nil])

/-! ### a cell of the script -/
def spAt (K : PySem.W.Frag) (a : Addr) (ns : List Int) : Sp := fun vs H Q _ => ∃ k : Int, vs = [.ref a, .int k] ∧ 0 ≤ k ∧ SqL K H a (ns.map V.int) ∧ Q (.int (ns.getD k.toNat 0)) H
section
variable {P : Program} {w : World} {K : PySem.W.Frag} {mg : Str → Option Value} {base : Heap}
theorem ok_law_at (T : Tx K mg) (a : Addr) (ns : List Int) {fd : FuncData} (F : FnP K "_law_at" "_law_at" s_law_at (He.ga K "_law_at") fd) : Fn P w K mg base 1 (He.ga K "_law_at") P_law_at (spAt K a ns) := by
  refine fn_ok F sc_law_at (fun vs H Q E h => ?_) (fun _ _ _ _ _ _ us hl => match us, hl with | [_, _], _ => rfl) (fun cdv A outer s H vs Q E hr h => ?_)
  · obtain ⟨k, rfl, _⟩ := h
    rfl
  · obtain ⟨k, rfl, hk, hS, hQ⟩ := h
    refine ⟨_, (pss_cons (ps_if (pt_cmpR op_lt (pv 1) (pe_callB call_len_seq rfl T.z_len PySem.boot_len (pa_cons (pv 0) pa_nil)) (nomark _)) (pss_one (ps_ret (pe_ix ix_list (pv 0) (pv 1) (fun _ _ => rfl)))) pss_nil)
    (pss_one (ps_ret pe_int))), ?_⟩
    rw [show start N_law_at [V.ref a, V.int k] = [some (V.ref a), some (V.int k)] from rfl]
    walk_at "rd"
    refine ⟨_, .inl hS, ?_⟩
    by_cases c : k < ((ns.map V.int).length : Int)
    · rw [if_pos c]
      exact ⟨a, _, _, _, rfl, rfl, hS, get_lt hk c, hQ⟩
    · rw [if_neg c]
      rw [List.length_map] at c
      have e : ns.getD k.toNat 0 = 0 := by rw [List.getD_eq_getElem?_getD, List.getElem?_eq_none (by omega)]; rfl
      rw [e] at hQ
      exact hQ
end

def spIs : Sp := fun vs H Q _ => ∃ i j : Int, vs = [.int i, .int j] ∧ Q (.bl (decide (i = j))) H
def numM (c : Int) : Int := if c % 4 = 0 then c / 4 % 7 - 3 else if c % 4 = 1 then c / 4 % 2001 - 1000 else if c % 4 = 2 then c / 4 % (10 ^ 20 + 1) - 5 * 10 ^ 19 else c / 4 % (2 * 10 ^ 60 - 1) - (10 ^ 60 - 1)
theorem numM_le (c : Int) : -10 ^ 60 < numM c ∧ numM c < 10 ^ 60 := by
  unfold numM
  split
  · omega
  · split
    · omega
    · split <;> omega
def spNum : Sp := fun vs H Q _ => ∃ c : Int, vs = [.int c] ∧ Q (.int (numM c)) H
def spThing : Sp := fun vs H Q _ => ∃ x : En, vs = [.ref x.1] ∧ H x.1 = some (tV x.2) ∧ Q (.bl true) H
section
variable {P : Program} {w : World} {K : PySem.W.Frag} {mg : Str → Option Value} {base : Heap}
theorem ok_law_is (T : Tx K mg) {fd : FuncData} (F : FnP K "_law_is" "_law_is" s_law_is (He.ga K "_law_is") fd) : Fn P w K mg base 1 (He.ga K "_law_is") P_law_is spIs := by
  refine fn_ok F sc_law_is (fun vs H Q E h => ?_) (fun _ _ _ _ _ _ us hl => match us, hl with | [_, _], _ => rfl) (fun cdv A outer s H vs Q E hr h => ?_)
  · obtain ⟨i, j, rfl, _⟩ := h
    rfl
  · obtain ⟨i, j, rfl, hQ⟩ := h
    refine ⟨_, (pss_one (ps_ret (pe_and (pe_callB call_isi rfl T.z_isinstance (by decide +kernel) (pa_cons (pv 0) (pa_cons (pe_tyv "int" T.z_int) pa_nil))) (pe_and (pe_not (pe_callB call_isi rfl T.z_isinstance (by decide +kernel) (pa_cons (pv 0) (pa_cons (pe_tyv "bool" T.z_bool) pa_nil)))) (pe_one (pe_cmpR op_eq (pv 0) (pv 1) (nomark _))))))), ?_⟩
    rw [show start N_law_is [V.int i, V.int j] = [some (V.int i), some (V.int j)] from rfl]
    walk_at "rd"
    exact hQ

theorem ok_law_number (T : Tx K mg) {fd : FuncData} (F : FnP K "_law_number" "_law_number" s_law_number (He.ga K "_law_number") fd) : Fn P w K mg base 1 (He.ga K "_law_number") P_law_number spNum := by
  refine fn_ok F sc_law_number (fun vs H Q E h => ?_) (fun _ _ _ _ _ _ us hl => match us, hl with | [_], _ => rfl) (fun cdv A outer s H vs Q E hr h => ?_)
  · obtain ⟨c, rfl, _⟩ := h
    rfl
  · obtain ⟨c, rfl, hQ⟩ := h
    refine ⟨_, (pss_cons (ps_set (i := 1) sc_law_number.nd rfl (Or.inl rfl) (pe_op op_fdiv (pv 0) pe_int))
    (pss_cons (ps_if (pt_cmpR op_eq (pe_op op_mod (pv 0) pe_int) pe_int (nomark _)) (pss_one (ps_ret (pe_op op_sub (pe_op op_mod (pv 1) pe_int) pe_int))) pss_nil)
    (pss_cons (ps_if (pt_cmpR op_eq (pe_op op_mod (pv 0) pe_int) pe_int (nomark _)) (pss_one (ps_ret (pe_op op_sub (pe_op op_mod (pv 1) pe_int) pe_int))) pss_nil)
    (pss_cons (ps_if (pt_cmpR op_eq (pe_op op_mod (pv 0) pe_int) pe_int (nomark _)) (pss_one (ps_ret (pe_op op_sub (pe_op op_mod (pv 1) (pe_op op_add (pe_op op_pow pe_int pe_int) pe_int)) (pe_op op_mul pe_int (pe_op op_pow pe_int pe_int))))) pss_nil)
    (pss_one (ps_ret (pe_op op_sub (pe_op op_mod (pv 1) (pe_op op_sub (pe_op op_mul pe_int (pe_op op_pow pe_int pe_int)) pe_int)) (pe_op op_sub (pe_op op_pow pe_int pe_int) pe_int)))))))), ?_⟩
    rw [show start N_law_number [V.int c] = [some (V.int c), none] from rfl]
    walk_at "rd"
    unfold numM at hQ
    by_cases c1 : c % 4 = 0
    · rw [if_pos c1] at hQ ⊢; exact hQ
    rw [if_neg c1] at hQ ⊢
    by_cases c2 : c % 4 = 1
    · rw [if_pos c2] at hQ ⊢; exact hQ
    rw [if_neg c2] at hQ ⊢
    by_cases c3 : c % 4 = 2
    · rw [if_pos c3] at hQ ⊢; exact ⟨.inl ⟨by decide, by decide⟩, hQ⟩
    rw [if_neg c3] at hQ ⊢
    exact ⟨.inl ⟨by decide, by decide⟩, hQ⟩

theorem ok_law_thing (T : Tx K mg) (F_law_is : Fn P w K mg base 1 (He.ga K "_law_is") P_law_is spIs) {fd : FuncData} (F : FnP K "_law_thing" "_law_thing" s_law_thing (He.ga K "_law_thing") fd) : Fn P w K mg base 2 (He.ga K "_law_thing") P_law_thing spThing := by
  refine fn_ok F sc_law_thing (fun vs H Q E h => ?_) (fun _ _ _ _ _ _ us hl => match us, hl with | [_], _ => rfl) (fun cdv A outer s H vs Q E hr h => ?_)
  · obtain ⟨x, rfl, _⟩ := h
    rfl
  · obtain ⟨x, rfl, hx, hQ⟩ := h
    refine ⟨_, (pss_cons (ps_if (PW.pt (pw_or (pt_not (pt_val (pe_callB call_isi rfl T.z_isinstance (by decide +kernel) (pa_cons (pv 0) (pa_cons (pe_tyv "tuple" T.z_tuple) pa_nil))))) (pw_or1 (pt_cmpR op_ne (pe_callB call_len_seq rfl T.z_len PySem.boot_len (pa_cons (pv 0) pa_nil)) pe_int (nomark _))))) (pss_one (ps_ret pe_bl)) pss_nil)
    (pss_one (ps_ret (pe_and (pe_callF F_law_is hr T.g__law_is (fun _ => nopass) (pa_cons (pe_ix ix_tup (pv 0) pe_int (fun _ _ => rfl)) (pa_cons (pe_ix ix_tup (pv 0) pe_int (fun _ _ => rfl)) pa_nil))) (pe_one (pe_callF F_law_is hr T.g__law_is (fun _ => nopass) (pa_cons (pe_ix ix_tup (pv 0) pe_int (fun _ _ => rfl)) (pa_cons (pe_ix ix_tup (pv 0) pe_int (fun _ _ => rfl)) pa_nil)))))))), ?_⟩
    rw [show start N_law_thing [V.ref x.1] = [some (V.ref x.1)] from rfl]
    walk_at "rd"
    refine isi_tup hx ?_
    walk_at "rd"
    refine ⟨_, .inr (SqT.of hx), (if_neg (by simp)).mpr ?_⟩
    refine ixT0 hx (ixT0 hx ⟨_, _, rfl, true, by simp, iteT ?_⟩)
    refine ixT1 hx (ixT1 hx ⟨_, _, rfl, ?_⟩)
    rw [decide_eq_true rfl]
    exact hQ

end
end Mp

namespace Mp
open PySem PySem.Spec PyProof.Rows L2
local macro_rules | `(tactic| walk_at "rd") => `(tactic| try simp only [tSeq, tAsg, gName, tVar, tC, tOp, rI0, rI, tTest, tB, tIfS, tNext, tBreak, tCont, tRet, tRetN, tDrop, tCons, tNil, tCallS, tCB, tAnd, tOr, tNot, tAndV, tOrV, tNotV, tUn, rU, tIf, tChain, gCons, gNil, gSub, tFld_r, sFld_r, sFldAug_r, tDGet_r, tDIn_r, tDNotIn_r, sDPut_r, tDPop1_r, tMethF_r, tMakeF, tBits, tSl, tPart, tDNewK, cxOf_K, tBM, tBM0, tTup, tLst, List.length_cons, List.length_nil, Nat.reduceAdd, Nat.zero_add, PySem.sizeLine_eq, Nat.reduceLeDiff,
  List.getElem?_cons_zero, List.getElem?_cons_succ, Option.some.injEq, exists_eq_left', List.set_cons_zero, List.set_cons_succ, exists_eq_left, V.int.injEq, V.bl.injEq, V.ref.injEq, List.cons.injEq, and_true, true_and, and_assoc, exists_and_left, decide_eq_true_eq,
  rEq_int, rNe_int, cdiv_iff, cpow10, Int.reduceLT, Int.reduceLE, Int.reduceToNat, Int.reducePow, Int.reduceNeg, Int.reduceSub, Int.reduceAdd, Int.reduceMul, Nat.reducePow, Nat.reduceLT, Bool.not_eq_true', Bool.false_eq_true, if_true, if_false, not_true_eq_false, not_false_eq_true, ite_not, Bool.not_true, Bool.not_false, reduceCtorEq, ipI, tAug, isi_int_int, isi_int_bool, isi_bool_bool, Bool.true_eq_false, reduceIte])
local macro_rules | `(tactic| walk_at "fo") => `(tactic| try simp only [tFor_enum, tFor_zip, tFor_list, tFor_r1])
local macro_rules | `(tactic| walk_at "mk") => `(tactic| try simp only [tMake, tCallSD, List.nil_append, List.cons_append, List.append_nil])

/-- row and kept agree -/
structure StR (K : PySem.W.Frag) (a : RA) (kl : Addr) (H : Hp) (pt wh cm : Int) (lo hi : Sx) (ke : List En) : Prop where
  at_ : RwAt K a H pt wh cm lo hi (vl ke)
  ok : RwOk pt wh cm lo hi (vl ke)
  hk : H kl = some (.lst (rf ke))
  kt : Tup H ke
  nk : kl ∉ PR a
abbrev PRK (a : RA) (kl : Addr) : List Addr := kl :: PR a
section
variable {K : PySem.W.Frag} {a : RA} {kl : Addr} {H H' : Hp} {pt wh cm : Int} {lo hi : Sx} {ke : List En}
theorem StR.notup (S : StR K a kl H pt wh cm lo hi ke) : NoTup H (PRK a kl) := by
  intro b hb xs
  rcases List.mem_cons.mp hb with rfl | hb
  · rw [S.hk]; simp
  · exact S.at_.notup b hb xs
theorem StR.fr (S : StR K a kl H pt wh cm lo hi ke) {P : List Addr} (f : Fr P H H') (h : ∀ b ∈ PRK a kl, b ∉ P) (n : NoTup H P) : StR K a kl H' pt wh cm lo hi ke :=
  ⟨S.at_.fr f (fun b hb => h b (List.mem_cons_of_mem _ hb)) n, S.ok, f _ _ S.hk (h kl List.mem_cons_self), S.kt.fr2 f n, S.nk⟩
theorem StR.same (S : StR K a kl H pt wh cm lo hi ke) (f : Same H H') : StR K a kl H' pt wh cm lo hi ke := S.fr (P := []) (Fr.of_same f) (fun _ _ => by simp) (fun _ h => by cases h)
theorem StR.alive (S : StR K a kl H pt wh cm lo hi ke) {z : Addr} (hz : H z = none) : z ∉ PRK a kl := fun m => by
  rcases List.mem_cons.mp m with rfl | m
  · rw [S.hk] at hz; cases hz
  · exact S.at_.alive hz m
theorem StR.ndc (S : StR K a kl H pt wh cm lo hi ke) : (ke.map (·.2.2)).Nodup := by
  have := S.ok.nd
  simp only [vl, List.map_map] at this
  exact this
theorem vl_get {ke : List En} {i : Nat} (h : i < ke.length) : (vl ke)[i]? = some (gE ke i).2 := by rw [List.getElem?_map, gE_some h]; rfl
theorem vl_mem {ke : List En} {c : Int} : c ∈ (vl ke).map (·.2) ↔ c ∈ ke.map (·.2.2) := by
  have : (vl ke).map (·.2) = ke.map (·.2.2) := by rw [List.map_map]; rfl
  rw [this]
/-- put: the row's next thing, and its like appended to kept -/
theorem StR.put {n : Int} {q : Addr} {lo' hi' : Sx} {H1 : Hp} (S : StR K a kl H pt wh cm lo hi ke) (f0 : Fr [kl] H H1) (hk1 : H1 kl = some (.lst (rf (ke ++ [(q, (n, cm + 1))])))) (hq : H1 q = some (tV (n, cm + 1)))
    (R : RwAt K a H' pt wh (cm + 1) lo' hi' (vl ke ++ [(n, cm + 1)])) (O : RwOk pt wh (cm + 1) lo' hi' (vl ke ++ [(n, cm + 1)])) (f1 : Fr (PR a) H1 H') : StR K a kl H' pt wh (cm + 1) lo' hi' (ke ++ [(q, (n, cm + 1))]) ∧ Fr (PRK a kl) H H' := by
  have n1 : NoTup H [kl] := S.notup.mono (by simp)
  have R1 := S.at_.fr f0 (by simp only [List.mem_singleton]; exact fun b hb e => S.nk (e ▸ hb)) n1
  have ft : Fr (PRK a kl) H H' := (f0.mono (by simp)).trans (f1.mono fun b hb => List.mem_cons_of_mem _ hb)
  have e : vl (ke ++ [(q, (n, cm + 1))]) = vl ke ++ [(n, cm + 1)] := by simp [vl]
  refine ⟨⟨by rw [e]; exact R, by rw [e]; exact O, f1 _ _ hk1 S.nk, ?_, S.nk⟩, ft⟩
  intro z hz
  rcases List.mem_append.mp hz with y | y
  · exact tup_fr ft S.notup (S.kt z y)
  · rw [List.mem_singleton.mp y]
    exact tup_fr f1 R1.notup hq
theorem vl_erase (ke : List En) (i : Nat) : vl (ke.eraseIdx i) = (vl ke).eraseIdx i := (map_erase _ _ _).symm
/-- take: a kept one popped, the row's like taken -/
theorem StR.take {i : Nat} {lo' hi' : Sx} {H1 : Hp} (S : StR K a kl H pt wh cm lo hi ke) (f0 : Fr [kl] H H1) (hk1 : H1 kl = some (.lst (rf (ke.eraseIdx i))))
    (R : RwAt K a H' pt wh cm lo' hi' ((vl ke).eraseIdx i)) (O : RwOk pt wh cm lo' hi' ((vl ke).eraseIdx i)) (f1 : Fr (PR a) H1 H') : StR K a kl H' pt wh cm lo' hi' (ke.eraseIdx i) ∧ Fr (PRK a kl) H H' := by
  have ft : Fr (PRK a kl) H H' := (f0.mono (by simp)).trans (f1.mono fun b hb => List.mem_cons_of_mem _ hb)
  refine ⟨⟨by rw [vl_erase]; exact R, by rw [vl_erase]; exact O, f1 _ _ hk1 S.nk, fun e he => tup_fr ft S.notup (S.kt e (List.mem_of_mem_eraseIdx he)), S.nk⟩, ft⟩
end
theorem nM (a : RA) (pt wh cm : Int) : ∀ m : Str, (m == ("part" : Str)) = false → (m == ("whole" : Str)) = false → (m == ("low" : Str)) = false → (m == ("high" : Str)) = false → (m == ("numbers" : Str)) = false → (m == ("came" : Str)) = false → (mf a pt wh cm).lookup m = none := fun m h1 h2 h3 h4 h5 h6 => mf_no _ _ _ _ ⟨h1, h2, h3, h4, h5, h6⟩
theorem hMadeR {K : PySem.W.Frag} {r dx : Addr} {pt wh : Int} {H : Hp} {Q : VK} {E : XK} (hp : H r = none) (hdx : H dx = none) (ne : dx ≠ r) (bp : pt.natAbs < 2 ^ 250) (hE : BadS pt wh → E (.ref (He.ga K "NoShare")) none (upd (upd H dx (.own r)) r (.ins (He.ga K "Midrow") dx [])))
    (q : ¬ BadS pt wh → ∀ (a : RA) (H' : Hp), a.r = r → RwAt K a H' pt wh 0 ([], []) ([], []) [] → (∀ b ∈ PR a, H b = none) → Same H H' → Q .non H') : spMInit K [.ref r, .int pt, .int wh] (upd (upd H dx (.own r)) r (.ins (He.ga K "Midrow") dx [])) Q E := by
  refine ⟨r, dx, pt, wh, rfl, upd_same, bp, hE, fun nB a H' ea _ R fr f => q nB a H' ea R (fun b hb => ?_) fun b o e => ?_⟩
  · by_cases z : b = r
    · rw [z]; exact hp
    · have h := fr b hb z
      by_cases y : b = dx
      · rw [y]; exact hdx
      · rw [upd_ne z, upd_ne y] at h
        exact h
  · have n1 : b ≠ r := fun z => by rw [z, hp] at e; cases e
    have n2 : b ≠ dx := fun z => by rw [z, hdx] at e; cases e
    exact f b o (by rw [upd_ne n1, upd_ne n2]; exact e) n1
theorem rwok_new {pt wh : Int} (h : ¬ BadS pt wh) (h1 : pt.natAbs < 2 ^ 250) (h2 : wh.natAbs < 2 ^ 250) : RwOk pt wh 0 ([], []) ([], []) [] :=
  ⟨(fun x hx => by cases hx), List.Perm.refl _, List.nodup_nil, (fun t ht => by cases ht), Int.le_refl _, h, h1, h2, (place_zero pt wh).symm⟩
theorem str_new {K : PySem.W.Frag} {a : RA} {pt wh : Int} {H : Hp} {kl : Addr} (R : RwAt K a H pt wh 0 ([], []) ([], []) []) (O : RwOk pt wh 0 ([], []) ([], []) []) (h : H kl = some (.lst [])) (n : kl ∉ PR a) : StR K a kl H pt wh 0 ([], []) ([], []) [] := ⟨R, O, h, (fun e he => by cases he), n⟩

/-- what a call may let out where the handler reads no slot -/
theorem passLen {X : Cx} {W : WX} {n : Nat} (hn : X.N.length = n) (tk : Takes X W) : Passes (L2.CX X.prog X.w) X (fun cls d H => ∀ σ : L2.St, σ.length = n → W cls d σ H) := fun pins σ H s e s' I c => tk e s' (XE.of_call I (fun cls d H' h => h σ (I.len.trans hn)) c)
def spNumbers : Sp := fun vs H Q _ => ∃ (c : Int) (m : Nat), vs = [.int c, .int (m : Int)] ∧ m < 1000 ∧ ∀ (xs : List Int) (p : Addr) (H' : Hp), xs.length = m → H p = none → H' p = some (.lst (xs.map V.int)) → Same H H' → Q (.ref p) H'
def spForm6 : Sp := fun vs H Q _ => ∃ (t : Bool) (l : Addr) (es : List En), vs = [.ref l, .bl t] ∧ H l = some (.lst (rf es)) ∧ Tup H es ∧ Form t es ∧ es.length < 1000000 ∧ Q (.bl true) H
def spEmp6 (K : PySem.W.Frag) : Sp := fun vs H Q _ => ∃ (a : RA) (pt wh cm : Int) (lo hi : Sx), vs = [.ref a.r] ∧ RwAt K a H pt wh cm lo hi [] ∧ RwOk pt wh cm lo hi [] ∧ ∀ H', Same H H' → Q (.bl true) H'
def spNoSh6 (K : PySem.W.Frag) : Sp := fun vs H Q _ => ∃ (a : RA) (pt wh cm : Int) (lo hi : Sx) (ks : List T) (p2 w2 : Int), vs = [.ref a.r, .int p2, .int w2] ∧ RwAt K a H pt wh cm lo hi ks ∧ RwOk pt wh cm lo hi ks ∧ ks.length < 10000 ∧ p2.natAbs < 2 ^ 250 ∧ BadS p2 w2 ∧ ∀ H', Same H H' → Q (.bl true) H'
def spNoRow6 : Sp := fun vs H Q _ => ∃ (p2 w2 : Int), vs = [.int p2, .int w2] ∧ p2.natAbs < 2 ^ 250 ∧ BadS p2 w2 ∧ ∀ H', Same H H' → Q (.bl true) H'
def spMade6 (K : PySem.W.Frag) : Sp := fun vs H Q _ => ∃ (c p2 w2 : Int), vs = [.int c, .int p2, .int w2] ∧ 0 ≤ p2 ∧ p2 ≤ w2 ∧ 1 ≤ w2 ∧ w2 ≤ 10 ^ 60 ∧ ∀ (q : Addr) (a : RA) (pt wh : Int) (H' : Hp), H' q = some (.tup [.ref a.r, .int pt, .int wh]) → RwAt K a H' pt wh 0 ([], []) ([], []) [] → RwOk pt wh 0 ([], []) ([], []) [] → (∀ b ∈ PR a, H b = none) → Same H H' → Q (.ref q) H'
def spNoTh6 (K : PySem.W.Frag) : Sp := fun vs H Q _ => ∃ (a : RA) (pt wh cm : Int) (lo hi : Sx) (ks : List T) (c : Int), vs = [.ref a.r, .int c] ∧ RwAt K a H pt wh cm lo hi ks ∧ RwOk pt wh cm lo hi ks ∧ ks.length < 10000 ∧ c ∉ ks.map (·.2) ∧ ∀ H', Same H H' → Q (.bl true) H'
/-- row, kept and the state's list -/
structure St6 (K : PySem.W.Frag) (a : RA) (kl st : Addr) (H : Hp) (pt wh cm : Int) (lo hi : Sx) (ke : List En) : Prop where
  sr : StR K a kl H pt wh cm lo hi ke
  hs : H st = some (.lst [.int cm, .int pt, .int wh])
  ns : st ∉ PRK a kl
abbrev P6 (a : RA) (kl st : Addr) : List Addr := st :: PRK a kl
def spPut6 (K : PySem.W.Frag) : Sp := fun vs H Q _ => ∃ (a : RA) (kl st : Addr) (pt wh cm : Int) (lo hi : Sx) (ke : List En) (n : Int), vs = [.ref a.r, .ref kl, .ref st, .int n] ∧ St6 K a kl st H pt wh cm lo hi ke ∧ ke.length < 1000 ∧
  ∀ lo' hi' q H', St6 K a kl st H' pt wh (cm + 1) lo' hi' (ke ++ [(q, (n, cm + 1))]) → Fr (P6 a kl st) H H' → Q (.bl true) H'
def spTaken6 (K : PySem.W.Frag) : Sp := fun vs H Q _ => ∃ (a : RA) (kl : Addr) (pt wh cm : Int) (lo hi : Sx) (ke : List En) (i : Nat), vs = [.ref a.r, .ref kl, .int (i : Int)] ∧ StR K a kl H pt wh cm lo hi ke ∧ ke.length < 1000 ∧ i < ke.length ∧ ∀ lo' hi' H', StR K a kl H' pt wh cm lo' hi' (ke.eraseIdx i) → Fr (PRK a kl) H H' → Q (.bl true) H'
def spHere6 (K : PySem.W.Frag) : Sp := fun vs H Q _ => ∃ (a : RA) (kl : Addr) (pt wh cm : Int) (lo hi : Sx) (ke : List En) (x : En), vs = [.ref a.r, .ref kl, .ref x.1] ∧ StR K a kl H pt wh cm lo hi ke ∧ ke.length < 1000 ∧ H x.1 = some (tV x.2) ∧ x.2 ∈ vl ke ∧ ∀ lo' hi' ke' H', StR K a kl H' pt wh cm lo' hi' ke' → ke'.length ≤ ke.length → Fr (PRK a kl) H H' → Q (.bl true) H'
def spAsked6 (K : PySem.W.Frag) : Sp := fun vs H Q _ => ∃ (a : RA) (kl : Addr) (pt wh cm : Int) (lo hi : Sx) (ke : List En) (c : Int), vs = [.ref a.r, .ref kl, .int c] ∧ StR K a kl H pt wh cm lo hi ke ∧ ke.length < 1000 ∧ ∀ lo' hi' ke' H', StR K a kl H' pt wh cm lo' hi' ke' → ke'.length ≤ ke.length → Fr (PRK a kl) H H' → Q (.bl true) H'
def spTurned6 (K : PySem.W.Frag) : Sp := fun vs H Q _ => ∃ (a : RA) (kl st : Addr) (pt wh cm : Int) (lo hi : Sx) (ke : List En) (c : Int), vs = [.ref a.r, .ref st, .int c] ∧ St6 K a kl st H pt wh cm lo hi ke ∧ ke.length < 1000 ∧
  ∀ pt' wh' lo' hi' H', St6 K a kl st H' pt' wh' cm lo' hi' ke → Fr (P6 a kl st) H H' → Q (.bl true) H'
def spPlace6 : Sp := fun vs H Q _ => ∃ (kl st : Addr) (b : Nat) (pt wh cm : Int) (xs : List V), vs = [.int (b : Int), .ref kl, .ref st] ∧ H kl = some (.lst xs) ∧ H st = some (.lst [.int cm, .int pt, .int wh]) ∧ xs.length < 1000 ∧ 0 < xs.length ∧ ¬ BadS pt wh ∧ ((b : Int) + 1 = placeM (xs.length : Int) pt wh) ∧ Q (.bl true) H
def AsW (kl : Addr) (ke : List En) (c : Int) (D : Addr) (H : Hp) (i : Nat) (H' : Hp) : Prop := ∃ l : List En, l = (ke.take i).filter (fun e => decide (e.2.2 = c)) ∧ H' = upd H D (.lst (rf l))
def NumW (c : Int) (m : Nat) (p : Addr) (H : Hp) (i : Nat) (σ : L2.St) (H' : Hp) : Prop := ∃ (xs : List Int) (now : Int) (v : Option V), σ = [some (V.int c), some (V.int (m : Int)), some (V.int (c % 4)), some (V.int now), some (V.ref p), v] ∧ xs.length = i ∧ 0 ≤ now ∧ now < 70000 ∧ H' p = some (.lst (xs.map V.int)) ∧ Same H H'
theorem in_l {K : PySem.W.Frag} {H : Hp} {x y : V} {t : T} {l : List T} {Q : VK} (hx : Dp K H x (tD t)) (hy : Dp K H y (lD l)) (m : t ∈ l) (q : Q (.bl true) H) : rInD K x y H Q := by
  refine ⟨_, _, hx, hy, shaped_tD _, shaped_lD _, ?_⟩
  have e : ((l.map tD).any fun z => PyData.eqv z (tD t)) = true := List.any_eq_true.mpr ⟨tD t, List.mem_map.mpr ⟨t, m, rfl⟩, by rw [eqv_tD]; exact decide_eq_true rfl⟩
  rw [e]
  exact q
theorem index_l {K : PySem.W.Frag} {H : Hp} {b : Addr} {y : V} {t : T} {l : List T} {j : Nat} {Q : VK} (hy : Dp K H y (tD t)) (hl : Dp K H (.ref b) (lD l)) (hj : l[j]? = some t) (nd : (l.map (·.2)).Nodup) (q : Q (.int (j : Nat)) H) : rIndexD K (.ref b) [y] H Q := by
  refine ⟨b, y, tD t, l.map tD, j, tD t, rfl, rfl, hl, hy, shaped_lD _, shaped_tD _, by rw [List.getElem?_map, hj]; rfl, by rw [eqv_tD]; exact decide_eq_true rfl, ?_, q⟩
  intro m z hm hz
  rw [List.getElem?_map] at hz
  cases hu : l[m]? with
  | none => rw [hu] at hz; cases hz
  | some u =>
    rw [hu] at hz
    have hz : tD u = z := Option.some.inj hz
    subst hz
    rw [eqv_tD]
    refine decide_eq_false fun e => ?_
    have := nd_ix nd (x := t.2) (i := m) (j := j) (by rw [List.getElem?_map, hu, e]; rfl) (by rw [List.getElem?_map, hj]; rfl)
    omega
def FoW6 (l : Addr) (t : Bool) (H : Hp) (i : Nat) (σ : L2.St) (H' : Hp) : Prop := H' = H ∧ ∃ v w, σ = [some (V.ref l), some (V.bl t), v, w]
section
variable {K : PySem.W.Frag} {a : RA} {kl st : Addr} {H H' : Hp} {pt wh cm : Int} {lo hi : Sx} {ke : List En}
theorem St6.same (S : St6 K a kl st H pt wh cm lo hi ke) (f : Same H H') : St6 K a kl st H' pt wh cm lo hi ke := ⟨S.sr.same f, f _ _ S.hs, S.ns⟩
theorem St6.up {lo' hi' : Sx} {ke' : List En} (S : St6 K a kl st H pt wh cm lo hi ke) (R : StR K a kl H' pt wh cm lo' hi' ke') (f : Fr (PRK a kl) H H') : St6 K a kl st H' pt wh cm lo' hi' ke' := ⟨R, f _ _ S.hs S.ns, S.ns⟩
theorem St6.notup (S : St6 K a kl st H pt wh cm lo hi ke) : NoTup H (P6 a kl st) := by
  intro b hb xs
  rcases List.mem_cons.mp hb with rfl | hb
  · rw [S.hs]; simp
  · exact S.sr.notup b hb xs
theorem St6.alive (S : St6 K a kl st H pt wh cm lo hi ke) {z : Addr} (hz : H z = none) : z ∉ P6 a kl st := fun m => by
  rcases List.mem_cons.mp m with rfl | m
  · rw [S.hs] at hz; cases hz
  · exact S.sr.alive hz m
end
section
variable {P : Program} {w : World} {K : PySem.W.Frag} {mg : Str → Option Value} {base : Heap}
theorem ok_law_numbers (T : Tx K mg) {fd : FuncData} (F : FnP K "_law_numbers" "_law_numbers" s_law_numbers (He.ga K "_law_numbers") fd) : Fn P w K mg base 1 (He.ga K "_law_numbers") P_law_numbers spNumbers := by
  refine fn_ok F sc_law_numbers (fun vs H Q E h => ?_) (fun _ _ _ _ _ _ us hl => match us, hl with | [_, _], _ => rfl) (fun cdv A outer s0 H vs Q E hr h => ?_)
  · obtain ⟨c, m, rfl, _⟩ := h
    rfl
  · obtain ⟨c, m, rfl, hm, hQ⟩ := h
    refine ⟨_, (pss_cons (ps_set (i := 2) sc_law_numbers.nd rfl (Or.inl rfl) (pe_op op_mod (pv 0) pe_int))
    (pss_cons (ps_set (i := 3) sc_law_numbers.nd rfl (Or.inl rfl) (pe_op op_add (pe_op op_mod (pe_op op_fdiv (pv 0) pe_int) pe_int) pe_int))
    (pss_cons (ps_set (i := 4) sc_law_numbers.nd rfl (Or.inl rfl) (pe_lst pa_nil))
    (pss_cons (ps_for PassesOwn.never rfl (pi_range1 rfl T.z_range (pa_cons (pv 1) pa_nil)) (pg_name (i := 5) sc_law_numbers.nd rfl (Or.inl rfl))
    (pss_cons (ps_set (i := 3) sc_law_numbers.nd rfl (Or.inl rfl) (pe_op op_mod (pe_op op_add (pe_op op_add (pe_op op_mul (pv 3) (pv 3)) (pe_op op_mul pe_int (pv 5))) pe_int) pe_int))
    (pss_one (ps_expr (pe_bm PySem.F.plainAttrs_list PySem.F.slot_list_append PySem.F.type_list_append mt_append (pv 4) (pa_cons (pe_ix ix_list (pe_lst (pa_cons (pe_op op_mod (pv 3) pe_int) (pa_cons (pe_op op_fdiv (pv 5) pe_int) (pa_cons (pe_op op_sub (pv 1) (pv 5)) (pa_cons (pe_op op_sub (pe_op op_mod (pv 3) pe_int) pe_int) pa_nil))))) (pv 2) (fun _ _ => rfl)) pa_nil))))))
    (pss_one (ps_ret (pv 4))))))), ?_⟩
    rw [show start N_law_numbers [V.int c, V.int (m : Int)] = [some (V.int c), some (V.int (m : Int)), none, none, none, none] from rfl]
    walk_at "rd"
    walk_at "fo"
    walk_at "rd"
    intro p hp
    have n0 : Same H (upd H p (.lst [])) := same_new hp
    refine r1R.mk (by omega) (NumW c m p H) ⟨[], _, none, rfl, rfl, by omega, by omega, upd_same, n0⟩ ?_ ?_
    · rintro i σ H4 hi ⟨xs, now, v, rfl, hx, h0, h1, h4, s4⟩
      walk_at "rd"
      refine ⟨.inl ⟨by omega, by omega⟩, .inl ⟨by decide, by decide⟩, .inl ⟨rfl, _, SqL.of h4⟩, fun q hq => ?_⟩
      have s5 := fun vs : List V => same_new (o := .lst vs) hq
      obtain ⟨j, hj, ej⟩ : ∃ j : Nat, j < 4 ∧ c % 4 = (j : Int) := ⟨(c % 4).toNat, by omega, by omega⟩
      rw [ej]
      have ge : ∀ y0 y1 y2 y3 : Int, ∃ y, ([V.int y0, V.int y1, V.int y2, V.int y3] : List V)[j]? = some (V.int y) := fun y0 y1 y2 y3 => by
        obtain rfl | rfl | rfl | rfl : j = 0 ∨ j = 1 ∨ j = 2 ∨ j = 3 := by omega
        · exact ⟨y0, rfl⟩
        · exact ⟨y1, rfl⟩
        · exact ⟨y2, rfl⟩
        · exact ⟨y3, rfl⟩
      obtain ⟨y, hy⟩ := ge ((now * now + 3 * (i : Int) + 31) % 64951 % 9967) ((i : Int) / 2) ((m : Int) - (i : Int)) ((now * now + 3 * (i : Int) + 31) % 64951 % 5 - 2)
      refine ixL_mk (SqL.of upd_same) (at_of (j := j) rfl hy) ?_
      have h5 := s5 [V.int ((now * now + 3 * (i : Int) + 31) % 64951 % 9967), V.int ((i : Int) / 2), V.int ((m : Int) - (i : Int)), V.int ((now * now + 3 * (i : Int) + 31) % 64951 % 5 - 2)] _ _ h4
      refine ⟨p, _, _, rfl, rfl, h5, by rw [List.length_map, PySem.sizeLine_eq]; omega, ?_⟩
      have e9 : xs.map V.int ++ [V.int y] = (xs ++ [y]).map V.int := by simp
      rw [e9]
      have := Int.emod_nonneg (now * now + 5 * (i : Int) + 43) (b := 64951) (by decide)
      have := Int.emod_lt_of_pos (now * now + 5 * (i : Int) + 43) (b := 64951) (by decide)
      refine ⟨xs ++ [y], _, _, by rw [ej], by simp [hx], by omega, by omega, upd_same, fun b o e => ?_⟩
      rw [upd_ne (ne_of_none e hp)]
      exact s5 _ _ _ (s4 _ _ e)
    · rintro σ H4 ⟨xs, now, v, rfl, hx, h0, h1, h4, s4⟩
      walk_at "rd"
      exact hQ xs p H4 (by omega) hp h4 s4
theorem ok_law_form (T : Tx K mg) (F_law_thing : Fn P w K mg base 2 (He.ga K "_law_thing") P_law_thing spThing) {fd : FuncData} (F : FnP K "_law_form" "_law_form" s_law_form (He.ga K "_law_form") fd) : Fn P w K mg base 3 (He.ga K "_law_form") P_law_form spForm6 := by
  refine fn_ok F sc_law_form (fun vs H Q E h => ?_) (fun _ _ _ _ _ _ us hl => match us, hl with | [_, _], _ => rfl) (fun cdv A outer s0 H vs Q E hr h => ?_)
  · obtain ⟨t, l, es, rfl, _⟩ := h
    rfl
  · obtain ⟨t, l, es, rfl, hl, ht, hf, hlen, hQ⟩ := h
    have hu64 := hr.units
    have hu0 := hr.units0
    have hu65 := hr.units65
    refine ⟨_, (pss_cons (ps_if (pt_not (pt_val (pe_callB call_isi rfl T.z_isinstance (by decide +kernel) (pa_cons (pv 0) (pa_cons (pe_tyv "list" T.z_list) pa_nil))))) (pss_one (ps_ret pe_bl)) pss_nil)
    (pss_cons (ps_for PassesOwn.never rfl (pi_range1 rfl T.z_range (pa_cons (pe_callB call_len_seq rfl T.z_len PySem.boot_len (pa_cons (pv 0) pa_nil)) pa_nil)) (pg_name (i := 2) sc_law_form.nd rfl (Or.inl rfl))
    (pss_cons (ps_if (pt_not (pt_val (pe_callF F_law_thing hr T.g__law_thing (fun _ => nopass) (pa_cons (pe_ix ix_list (pv 0) (pv 2) (fun _ _ => rfl)) pa_nil)))) (pss_one (ps_ret pe_bl)) pss_nil)
    (pss_cons (ps_set (i := 3) sc_law_form.nd rfl (Or.inl rfl) (pe_ix ix_list (pv 0) (pe_op op_fdiv (pe_callB (call_max2 rfl) rfl T.z_max (by decide +kernel) (pa_cons pe_int (pa_cons (pe_op op_sub (pv 2) pe_int) pa_nil))) pe_int) (fun _ _ => rfl)))
    (pss_cons (ps_if (PW.pt (pw_and (pt_val (pv 1)) (pw_and1 (pt_cmpR (op_ltT hu0) (pv 3) (pe_ix ix_list (pv 0) (pv 2) (fun _ _ => rfl)) (nomark _))))) (pss_one (ps_ret pe_bl)) pss_nil)
    (pss_one (ps_if (PW.pt (pw_and (pt_not (pt_val (pv 1))) (pw_and1 (pt_cmpR (op_ltT hu0) (pe_ix ix_list (pv 0) (pv 2) (fun _ _ => rfl)) (pv 3) (nomark _))))) (pss_one (ps_ret pe_bl)) pss_nil))))))
    (pss_one (ps_ret pe_bl)))), ?_⟩
    rw [show start N_law_form [V.ref l, V.bl t] = [some (V.ref l), some (V.bl t), none, none] from rfl]
    walk_at "rd"
    walk_at "mk"
    walk_at "rd"
    refine isi_lst hl ⟨true, rfl, (if_neg (by decide)).mpr ?_⟩
    have lg : ∀ i, i < es.length → atI (rf es) (i : Int) = some (V.ref (gE es i).1) := fun i hi => at_of (j := i) rfl (by rw [List.getElem?_map, gE_some hi]; rfl)
    walk_at "fo"
    walk_at "rd"
    refine ⟨_, .inl (SqL.of hl), ?_⟩
    rw [List.length_map]
    refine r1R.mk hlen (FoW6 l t H) ⟨rfl, none, none, rfl⟩ ?_ ?_
    · rintro i σ H' hi ⟨rfl, v, w, rfl⟩
      walk_at "rd"
      have hp : (i - 1) / 2 < es.length := by omega
      have h1 := ht _ (gE_mem hi)
      have h2 := ht _ (gE_mem hp)
      have hno : ah t (gE es i).2 (gE es ((i - 1) / 2)).2 = false := by
        by_cases c1 : 0 < i
        · exact hf i _ _ c1 (gE_some hi) (gE_some hp)
        · have : i = 0 := by omega
          subst this
          exact ah_irr _ _
      have a2 : atI (rf es) ((if (i : Int) - 1 > 0 then (i : Int) - 1 else 0) / 2) = some (V.ref (gE es ((i - 1) / 2)).1) := at_of (j := (i - 1) / 2) (by split <;> omega) (gE_at hp)
      refine ixL_mk (SqL.of hl) (lg i hi) ⟨gE es i, rfl, h1, true, rfl, (if_neg (by decide)).mpr (ixL_mk (SqL.of hl) a2 ?_)⟩
      cases t with
      | true =>
        refine iteT (ixL_mk (SqL.of hl) (lg i hi) ⟨_, _, [(gE es ((i - 1) / 2)).2.1, (gE es ((i - 1) / 2)).2.2], [(gE es i).2.1, (gE es i).2.2], rfl, rfl, SqT.of h2, SqT.of h1, ?_⟩)
        rw [lex_ah]
        have hfo : lt2 (gE es ((i - 1) / 2)).2 (gE es i).2 = false := hno
        rw [hfo]
        refine ⟨_, rfl, (if_neg (by decide)).mpr ?_⟩
        exact (if_neg (by decide)).mpr ⟨rfl, _, _, rfl⟩
      | false =>
        refine iteF ((if_pos rfl).mpr (ixL_mk (SqL.of hl) (lg i hi) ⟨_, _, [(gE es i).2.1, (gE es i).2.2], [(gE es ((i - 1) / 2)).2.1, (gE es ((i - 1) / 2)).2.2], rfl, rfl, SqT.of h1, SqT.of h2, ?_⟩))
        rw [lex_ah]
        have hfo : lt2 (gE es i).2 (gE es ((i - 1) / 2)).2 = false := hno
        rw [hfo]
        exact ⟨_, rfl, (if_neg (by decide)).mpr ⟨rfl, _, _, rfl⟩⟩
    · rintro σ H' ⟨rfl, v, w, rfl⟩
      walk_at "rd"
      exact hQ
theorem ok_law_empty (T : Tx K mg) (F_Midrow_share : Fn P w K mg base 2 (He.ma K (He.ga K "Midrow") "share") P_Midrow_share (spRShare K)) {fd : FuncData} (F : FnP K "_law_empty" "_law_empty" s_law_empty (He.ga K "_law_empty") fd) : Fn P w K mg base 5 (He.ga K "_law_empty") P_law_empty (spEmp6 K) := by
  refine fn_ok F sc_law_empty (fun vs H Q E h => ?_) (fun _ _ _ _ _ _ us hl => match us, hl with | [_], _ => rfl) (fun cdv A outer s0 H vs Q E hr h => ?_)
  · obtain ⟨a, pt, wh, cm, lo, hi, rfl, _⟩ := h
    rfl
  · obtain ⟨a, pt, wh, cm, lo, hi, rfl, R, O, hQ⟩ := h
    have hu64 := hr.units
    have hu0 := hr.units0
    have hu65 := hr.units65
    refine ⟨_, (pss_cons (ps_try_as (i := 1) (Wout := fun _ _ _ _ => False) rfl rfl sc_law_empty.nd rfl rfl ⟨rfl, by decide, Or.inl T.g_MidError⟩ takes0
      (fun W pn xe tk _ => (pss_one (ps_expr (pe_methF0 (pv 0) T.cl_Midrow T.m_Midrow_share F_Midrow_share hr (fun σ => passAt tk σ)))))
      (fun a oe cls d pn hz hf => (pss_cons (ps_set (i := 2) sc_law_empty.nd rfl (Or.inl rfl) (pe_callB (call_isET2 hz hf) rfl T.z_isinstance (by decide +kernel) (pa_cons (pv 1) (pa_cons (pe_tup (pa_cons (pe_clsv T.g_NoShare) (pa_cons (pe_clsv T.g_NoThing) (pa_cons (pe_clsv T.g_NoWidth) (pa_cons (pe_clsv T.g_Twice) pa_nil))))) pa_nil))))
    (pss_one (ps_ret (pe_and (pe_callB (call_isE2 hz hf) rfl T.z_isinstance (by decide +kernel) (pa_cons (pv 1) (pa_cons (pe_clsv T.g_Empty) pa_nil))) (pe_and (pe_callB (call_isE2 hz hf) rfl T.z_isinstance (by decide +kernel) (pa_cons (pv 1) (pa_cons (pe_tyv "ValueError" T.z_ValueError) pa_nil))) (pe_one (pe_not (pv 2))))))))))
    (pss_one (ps_ret pe_bl))), ?_⟩
    rw [show start N_law_empty [V.ref a.r] = [some (V.ref a.r), none, none] from rfl]
    walk_at "rd"
    walk_at "mk"
    walk_at "rd"
    refine metR.mk R.ob (nM _ _ _ _ _ (by decide +kernel) (by decide +kernel) (by decide +kernel) (by decide +kernel) (by decide +kernel) (by decide +kernel)) ⟨a, pt, wh, cm, lo, hi, [], rfl, R, fun _ H1 s1 => suite_ok T.em_Empty T.xe_Empty T.kn_Empty T.ki_Empty T.kv_Empty (by show 1 < 3; decide) (by show 2 < 3; decide) (by decide) fun H2 s2 => hQ H2 fun b o e => s2 _ _ (s1 _ _ e), fun e he => ?_⟩
    have ht := O.tot
    simp only [List.length_nil] at ht
    rw [List.eq_nil_of_length_eq_zero (show lo.1.length = 0 by omega)] at he
    cases he
theorem ok_law_no_share (T : Tx K mg) (F_Midrow_turn : Fn P w K mg base 5 (He.ma K (He.ga K "Midrow") "turn") P_Midrow_turn (spRTurn K)) {fd : FuncData} (F : FnP K "_law_no_share" "_law_no_share" s_law_no_share (He.ga K "_law_no_share") fd) : Fn P w K mg base 6 (He.ga K "_law_no_share") P_law_no_share (spNoSh6 K) := by
  refine fn_ok F sc_law_no_share (fun vs H Q E h => ?_) (fun _ _ _ _ _ _ us hl => match us, hl with | [_, _, _], _ => rfl) (fun cdv A outer s0 H vs Q E hr h => ?_)
  · obtain ⟨a, pt, wh, cm, lo, hi, ks, p2, w2, rfl, _⟩ := h
    rfl
  · obtain ⟨a, pt, wh, cm, lo, hi, ks, p2, w2, rfl, R, O, hl, bp, hB, hQ⟩ := h
    have hu64 := hr.units
    have hu0 := hr.units0
    have hu65 := hr.units65
    refine ⟨_, (pss_cons (ps_try_as (i := 3) (Wout := fun _ _ _ _ => False) rfl rfl sc_law_no_share.nd rfl rfl ⟨rfl, by decide, Or.inl T.g_MidError⟩ takes0
      (fun W pn xe tk _ => (pss_one (ps_expr (pe_methF (pv 0) T.cl_Midrow T.m_Midrow_turn F_Midrow_turn hr (fun σ => passAt tk σ) (pa_cons (pv 1) (pa_cons (pv 2) pa_nil))))))
      (fun a oe cls d pn hz hf => (pss_cons (ps_set (i := 4) sc_law_no_share.nd rfl (Or.inl rfl) (pe_callB (call_isET2 hz hf) rfl T.z_isinstance (by decide +kernel) (pa_cons (pv 3) (pa_cons (pe_tup (pa_cons (pe_clsv T.g_Empty) (pa_cons (pe_clsv T.g_NoThing) (pa_cons (pe_clsv T.g_NoWidth) (pa_cons (pe_clsv T.g_Twice) pa_nil))))) pa_nil))))
    (pss_one (ps_ret (pe_and (pe_callB (call_isE2 hz hf) rfl T.z_isinstance (by decide +kernel) (pa_cons (pv 3) (pa_cons (pe_clsv T.g_NoShare) pa_nil))) (pe_and (pe_callB (call_isE2 hz hf) rfl T.z_isinstance (by decide +kernel) (pa_cons (pv 3) (pa_cons (pe_tyv "ValueError" T.z_ValueError) pa_nil))) (pe_one (pe_not (pv 4))))))))))
    (pss_one (ps_ret pe_bl))), ?_⟩
    rw [show start N_law_no_share [V.ref a.r, V.int p2, V.int w2] = [some (V.ref a.r), some (V.int p2), some (V.int w2), none, none] from rfl]
    walk_at "rd"
    walk_at "mk"
    walk_at "rd"
    exact metR.mk R.ob (nM _ _ _ _ _ (by decide +kernel) (by decide +kernel) (by decide +kernel) (by decide +kernel) (by decide +kernel) (by decide +kernel)) ⟨a, pt, wh, cm, lo, hi, ks, p2, w2, rfl, R, O, hl, bp, fun _ => suite_ok T.em_NoShare T.xe_NoShare T.kn_NoShare T.ki_NoShare T.kv_NoShare (by show 3 < 5; decide) (by show 4 < 5; decide) (by decide) hQ, fun nB => absurd hB nB, .inl hB⟩
theorem ok_law_no_row (T : Tx K mg) (F_Midrow_init2 : FnI P w K mg base 3 (He.ma K (He.ga K "Midrow") "__init__") P_Midrow___init__ (spMInit K) []) {fd : FuncData} (F : FnP K "_law_no_row" "_law_no_row" s_law_no_row (He.ga K "_law_no_row") fd) : Fn P w K mg base 5 (He.ga K "_law_no_row") P_law_no_row spNoRow6 := by
  refine fn_ok F sc_law_no_row (fun vs H Q E h => ?_) (fun _ _ _ _ _ _ us hl => match us, hl with | [_, _], _ => rfl) (fun cdv A outer s0 H vs Q E hr h => ?_)
  · obtain ⟨p2, w2, rfl, _⟩ := h
    rfl
  · obtain ⟨p2, w2, rfl, bp, hB, hQ⟩ := h
    have hu64 := hr.units
    have hu0 := hr.units0
    have hu65 := hr.units65
    refine ⟨_, (pss_cons (ps_try_as (i := 2) (Wout := fun _ _ _ _ => False) rfl rfl sc_law_no_row.nd rfl rfl ⟨rfl, by decide, Or.inl T.g_MidError⟩ takes0
      (fun W pn xe tk _ => (pss_one (ps_expr (pe_makeI (E := fun cls d H => ∀ σ : L2.St, σ.length = 4 → W cls d σ H) T.mk_Midrow F_Midrow_init2 hr T.g_Midrow (passLen rfl tk) (pa_cons (pv 0) (pa_cons (pv 1) pa_nil))))))
      (fun a oe cls d pn hz hf => (pss_cons (ps_set (i := 3) sc_law_no_row.nd rfl (Or.inl rfl) (pe_callB (call_isET2 hz hf) rfl T.z_isinstance (by decide +kernel) (pa_cons (pv 2) (pa_cons (pe_tup (pa_cons (pe_clsv T.g_Empty) (pa_cons (pe_clsv T.g_NoThing) (pa_cons (pe_clsv T.g_NoWidth) (pa_cons (pe_clsv T.g_Twice) pa_nil))))) pa_nil))))
    (pss_one (ps_ret (pe_and (pe_callB (call_isE2 hz hf) rfl T.z_isinstance (by decide +kernel) (pa_cons (pv 2) (pa_cons (pe_clsv T.g_NoShare) pa_nil))) (pe_and (pe_callB (call_isE2 hz hf) rfl T.z_isinstance (by decide +kernel) (pa_cons (pv 2) (pa_cons (pe_tyv "ValueError" T.z_ValueError) pa_nil))) (pe_one (pe_not (pv 3))))))))))
    (pss_one (ps_ret pe_bl))), ?_⟩
    rw [show start N_law_no_row [V.int p2, V.int w2] = [some (V.int p2), some (V.int w2), none, none] from rfl]
    walk_at "rd"
    walk_at "mk"
    walk_at "rd"
    intro r dx hr0 hdx ne
    refine hMadeR hr0 hdx ne bp (fun _ σ hσ => suite_ok T.em_NoShare T.xe_NoShare T.kn_NoShare T.ki_NoShare T.kv_NoShare (by rw [hσ]; decide) (by rw [hσ]; decide) (by decide) fun H2 s2 => hQ H2 fun b o e => s2 _ _ ?_) (fun nB => absurd hB nB)
    rw [upd_ne (ne_of_none e hr0), upd_ne (ne_of_none e hdx)]
    exact e
theorem ok_law_made (T : Tx K mg) (F_Midrow_init0 : FnI P w K mg base 3 (He.ma K (He.ga K "Midrow") "__init__") P_Midrow___init__ (spMInit K) [.int 1, .int 2]) (F_Midrow_init1 : FnI P w K mg base 3 (He.ma K (He.ga K "Midrow") "__init__") P_Midrow___init__ (spMInit K) [.int 2]) (F_Midrow_init2 : FnI P w K mg base 3 (He.ma K (He.ga K "Midrow") "__init__") P_Midrow___init__ (spMInit K) []) {fd : FuncData} (F : FnP K "_law_made" "_law_made" s_law_made (He.ga K "_law_made") fd) : Fn P w K mg base 5 (He.ga K "_law_made") P_law_made (spMade6 K) := by
  refine fn_ok F sc_law_made (fun vs H Q E h => ?_) (fun _ _ _ _ _ _ us hl => match us, hl with | [_, _, _], _ => rfl) (fun cdv A outer s0 H vs Q E hr h => ?_)
  · obtain ⟨c, p2, w2, rfl, _⟩ := h
    rfl
  · obtain ⟨c, p2, w2, rfl, h0, h1, h2, h3, hQ⟩ := h
    have hu64 := hr.units
    have hu0 := hr.units0
    have hu65 := hr.units65
    refine ⟨_, (pss_cons (ps_if (pt_cmpR op_eq (pe_op op_mod (pv 0) pe_int) pe_int (nomark _)) (pss_one (ps_ret (pe_tup (pa_cons (pe_makeI0 T.mk_Midrow F_Midrow_init0 hr T.g_Midrow nopass0) (pa_cons pe_int (pa_cons pe_int pa_nil)))))) pss_nil)
    (pss_cons (ps_if (pt_cmpR op_eq (pe_op op_mod (pv 0) pe_int) pe_int (nomark _)) (pss_one (ps_ret (pe_tup (pa_cons (pe_makeI T.mk_Midrow F_Midrow_init1 hr T.g_Midrow nopass0 (pa_cons (pe_op op_mod (pv 1) pe_int) pa_nil)) (pa_cons (pe_op op_mod (pv 1) pe_int) (pa_cons pe_int pa_nil)))))) pss_nil)
    (pss_one (ps_ret (pe_tup (pa_cons (pe_makeI T.mk_Midrow F_Midrow_init2 hr T.g_Midrow nopass0 (pa_cons (pv 1) (pa_cons (pv 2) pa_nil))) (pa_cons (pv 1) (pa_cons (pv 2) pa_nil)))))))), ?_⟩
    rw [show start N_law_made [V.int c, V.int p2, V.int w2] = [some (V.int c), some (V.int p2), some (V.int w2)] from rfl]
    walk_at "rd"
    walk_at "mk"
    walk_at "rd"
    have mk : ∀ (p w : Int) {r dx : Addr}, 0 ≤ p → p ≤ w → 1 ≤ w → w ≤ 10 ^ 60 → H r = none → H dx = none → dx ≠ r → spMInit K [V.ref r, V.int p, V.int w] (upd (upd H dx (HO.own r)) r (HO.ins (He.ga K "Midrow") dx [])) (fun v H2 => v = V.non ∧ ∀ (q : Addr), H2 q = none → Q (V.ref q) (upd H2 q (HO.tup [V.ref r, V.int p, V.int w]))) E0 := fun p w r dx p0 p1 w0 w1 hr0 hdx ne => by
      have nB : ¬ BadS p w := by unfold BadS; omega
      refine hMadeR hr0 hdx ne (by omega) (fun z => absurd z nB) fun _ a H1 ea R fr s1 => ⟨rfl, fun q hq => ?_⟩
      subst ea
      have s2 := same_new (o := .tup [V.ref a.r, V.int p, V.int w]) hq
      exact hQ q a p w _ upd_same (R.same s2) (rwok_new nB (by omega) (by omega)) fr fun b o e => s2 _ _ (s1 _ _ e)
    exact ite2 (fun _ r dx a b c => mk 1 2 (by decide) (by decide) (by decide) (by decide) a b c) (fun _ => ite2 (fun _ r dx a b c => mk (p2 % 3) 2 (by omega) (by omega) (by decide) (by decide) a b c) (fun _ r dx a b c => mk p2 w2 h0 h1 h2 h3 a b c))
theorem ok_law_no_thing (T : Tx K mg) (F_Midrow_take : Fn P w K mg base 5 (He.ma K (He.ga K "Midrow") "take") P_Midrow_take (spRTake K)) {fd : FuncData} (F : FnP K "_law_no_thing" "_law_no_thing" s_law_no_thing (He.ga K "_law_no_thing") fd) : Fn P w K mg base 6 (He.ga K "_law_no_thing") P_law_no_thing (spNoTh6 K) := by
  refine fn_ok F sc_law_no_thing (fun vs H Q E h => ?_) (fun _ _ _ _ _ _ us hl => match us, hl with | [_, _], _ => rfl) (fun cdv A outer s0 H vs Q E hr h => ?_)
  · obtain ⟨a, pt, wh, cm, lo, hi, ks, c, rfl, _⟩ := h
    rfl
  · obtain ⟨a, pt, wh, cm, lo, hi, ks, c, rfl, R, O, hl, hc, hQ⟩ := h
    have hu64 := hr.units
    have hu0 := hr.units0
    have hu65 := hr.units65
    refine ⟨_, (pss_cons (ps_try_only (Wout := fun _ _ _ _ => False) rfl rfl ⟨rfl, by decide, Or.inl T.g_NoThing⟩ takes0
      (fun W pn xe tk _ => (pss_one (ps_expr (pe_methF (pv 0) T.cl_Midrow T.m_Midrow_take F_Midrow_take hr (fun σ => passAt tk σ) (pa_cons (pv 1) pa_nil)))))
      (fun a oe cls d pn hz hf => (pss_one (ps_ret pe_bl))))
    (pss_one (ps_ret pe_bl))), ?_⟩
    rw [show start N_law_no_thing [V.ref a.r, V.int c] = [some (V.ref a.r), some (V.int c)] from rfl]
    walk_at "rd"
    walk_at "mk"
    walk_at "rd"
    exact metR.mk R.ob (nM _ _ _ _ _ (by decide +kernel) (by decide +kernel) (by decide +kernel) (by decide +kernel) (by decide +kernel) (by decide +kernel)) ⟨a, pt, wh, cm, lo, hi, ks, c, rfl, R, O, hl, fun _ => ⟨true, T.es_NoThing, fun _ _ _ => hQ _ fun _ _ e => e, fun z => nomatch z⟩, fun i t ht q => absurd (List.mem_map.mpr ⟨t, List.mem_of_getElem? ht, q⟩) hc⟩
theorem ok_law_put (T : Tx K mg) (F_Midrow_put : Fn P w K mg base 5 (He.ma K (He.ga K "Midrow") "put") P_Midrow_put (spRPut K)) (F_law_is : Fn P w K mg base 1 (He.ga K "_law_is") P_law_is spIs) {fd : FuncData} (F : FnP K "_law_put" "_law_put" s_law_put (He.ga K "_law_put") fd) : Fn P w K mg base 6 (He.ga K "_law_put") P_law_put (spPut6 K) := by
  refine fn_ok F sc_law_put (fun vs H Q E h => ?_) (fun _ _ _ _ _ _ us hl => match us, hl with | [_, _, _, _], _ => rfl) (fun cdv A outer s0 H vs Q E hr h => ?_)
  · obtain ⟨a, kl, st, pt, wh, cm, lo, hi, ke, n, rfl, _⟩ := h
    rfl
  · obtain ⟨a, kl, st, pt, wh, cm, lo, hi, ke, n, rfl, S, hl, hQ⟩ := h
    have hu64 := hr.units
    have hu0 := hr.units0
    have hu65 := hr.units65
    refine ⟨_, (pss_cons (ps_asg (pe_op op_add (pe_ix ix_list (pv 2) pe_int (fun _ _ => rfl)) pe_int) (pg_sub (pv 2) pe_int set_list))
    (pss_cons (ps_expr (pe_bm PySem.F.plainAttrs_list PySem.F.slot_list_append PySem.F.type_list_append mt_append (pv 1) (pa_cons (pe_tup (pa_cons (pv 3) (pa_cons (pe_ix ix_list (pv 2) pe_int (fun _ _ => rfl)) pa_nil))) pa_nil)))
    (pss_one (ps_ret (pe_callF F_law_is hr T.g__law_is (fun _ => nopass) (pa_cons (pe_methF (pv 0) T.cl_Midrow T.m_Midrow_put F_Midrow_put hr (fun _ => nopass) (pa_cons (pv 3) pa_nil)) (pa_cons (pe_ix ix_list (pv 2) pe_int (fun _ _ => rfl)) pa_nil))))))), ?_⟩
    rw [show start N_law_put [V.ref a.r, V.ref kl, V.ref st, V.int n] = [some (V.ref a.r), some (V.ref kl), some (V.ref st), some (V.int n)] from rfl]
    walk_at "rd"
    walk_at "mk"
    walk_at "rd"
    refine ixL_mk (SqL.of S.hs) rfl ⟨_, rfl, st, _, 0, 0, rfl, rfl, S.hs, ixN_of (j := 0) (by show 0 < 3; decide), ?_⟩
    rw [show ([V.int cm, V.int pt, V.int wh].set 0 (V.int (cm + 1))) = [V.int (cm + 1), V.int pt, V.int wh] from rfl]
    have f1 : Fr [st] H (upd H st (.lst [V.int (cm + 1), V.int pt, V.int wh])) := fr_upd (by simp)
    have S1 := S.sr.fr f1 (by simp only [List.mem_singleton]; exact fun b hb e => S.ns (e ▸ hb)) (fun b hb xs => by rw [List.mem_singleton.mp hb, S.hs]; simp)
    have g1 : upd H st (.lst [V.int (cm + 1), V.int pt, V.int wh]) st = some (.lst [V.int (cm + 1), V.int pt, V.int wh]) := upd_same
    revert f1 S1 g1
    generalize upd H st (.lst [V.int (cm + 1), V.int pt, V.int wh]) = H1
    intro f1 S1 g1
    refine ⟨.inl ⟨rfl, _, SqL.of S1.hk⟩, ixL_mk (SqL.of g1) rfl fun p hp => ⟨kl, _, _, rfl, rfl, same_new hp _ _ S1.hk, by rw [List.length_map, PySem.sizeLine_eq]; omega, ?_⟩⟩
    rw [rf_snoc ke (p, (n, cm + 1))]
    have s2 := same_new (o := .tup [V.int n, V.int (cm + 1)]) hp
    have k2 := s2 _ _ S1.hk
    have g2 := s2 _ _ g1
    have npk : p ≠ kl := fun z => by rw [z, S1.hk] at hp; cases hp
    have nsk : st ≠ kl := fun z => S.ns (by rw [z]; simp)
    have f3 : Fr [kl] (upd H1 p (.tup [V.int n, V.int (cm + 1)])) (upd (upd H1 p (.tup [V.int n, V.int (cm + 1)])) kl (.lst (rf (ke ++ [(p, (n, cm + 1))])))) := fr_upd (by simp)
    have n3 : NoTup (upd H1 p (.tup [V.int n, V.int (cm + 1)])) [kl] := fun b hb xs => by rw [List.mem_singleton.mp hb, k2]; simp
    have R3 := (S1.at_.same s2).fr f3 (by simp only [List.mem_singleton]; exact fun b hb e => S1.nk (e ▸ hb)) n3
    have hk3 : (upd (upd H1 p (.tup [V.int n, V.int (cm + 1)])) kl (.lst (rf (ke ++ [(p, (n, cm + 1))])))) kl = some (.lst (rf (ke ++ [(p, (n, cm + 1))]))) := upd_same
    have hp3 : (upd (upd H1 p (.tup [V.int n, V.int (cm + 1)])) kl (.lst (rf (ke ++ [(p, (n, cm + 1))])))) p = some (tV (n, cm + 1)) := by rw [upd_ne npk]; exact upd_same
    have g3 := f3 _ _ g2 (by simpa using nsk)
    have f13 := (Fr.of_same (P := [kl]) s2).trans f3
    revert f13 R3 hk3 hp3 g3
    generalize (upd (upd H1 p (.tup [V.int n, V.int (cm + 1)])) kl (.lst (rf (ke ++ [(p, (n, cm + 1))])))) = H3
    intro R3 hk3 hp3 g3 f13
    refine metR.mk R3.ob (nM _ _ _ _ _ (by decide +kernel) (by decide +kernel) (by decide +kernel) (by decide +kernel) (by decide +kernel) (by decide +kernel)) ⟨a, pt, wh, cm, lo, hi, vl ke, n, rfl, R3, S.sr.ok, by rw [List.length_map]; omega, fun lo' hi' H4 R4 O4 _ _ f4 => ?_⟩
    obtain ⟨S4, f14⟩ := S1.put f13 hk3 hp3 R4 O4 f4
    have g4 := f4 _ _ g3 fun m => S.ns (List.mem_cons_of_mem _ m)
    refine ixL_mk (SqL.of g4) rfl ⟨_, _, rfl, ?_⟩
    rw [decide_eq_true rfl]
    exact hQ lo' hi' p H4 ⟨S4, g4, S.ns⟩ ((f1.mono (by simp)).trans (f14.mono fun b hb => List.mem_cons_of_mem _ hb))
theorem ok_law_taken (T : Tx K mg) (F_Midrow_take : Fn P w K mg base 5 (He.ma K (He.ga K "Midrow") "take") P_Midrow_take (spRTake K)) (F_law_is : Fn P w K mg base 1 (He.ga K "_law_is") P_law_is spIs) {fd : FuncData} (F : FnP K "_law_taken" "_law_taken" s_law_taken (He.ga K "_law_taken") fd) : Fn P w K mg base 6 (He.ga K "_law_taken") P_law_taken (spTaken6 K) := by
  refine fn_ok F sc_law_taken (fun vs H Q E h => ?_) (fun _ _ _ _ _ _ us hl => match us, hl with | [_, _, _], _ => rfl) (fun cdv A outer s0 H vs Q E hr h => ?_)
  · obtain ⟨a, kl, pt, wh, cm, lo, hi, ke, i, rfl, _⟩ := h
    rfl
  · obtain ⟨a, kl, pt, wh, cm, lo, hi, ke, i, rfl, S, hl, hi2, hQ⟩ := h
    have hu64 := hr.units
    have hu0 := hr.units0
    have hu65 := hr.units65
    refine ⟨_, (pss_cons (ps_set (i := 3) sc_law_taken.nd rfl (Or.inl rfl) (pe_bm PySem.F.plainAttrs_list PySem.F.slot_list_pop PySem.F.type_list_pop mt_popAt (pv 1) (pa_cons (pv 2) pa_nil)))
    (pss_one (ps_ret (pe_callF F_law_is hr T.g__law_is (fun _ => nopass) (pa_cons (pe_methF (pv 0) T.cl_Midrow T.m_Midrow_take F_Midrow_take hr (fun _ => nopass) (pa_cons (pe_ix ix_tup (pv 3) pe_int (fun _ _ => rfl)) pa_nil)) (pa_cons (pe_ix ix_tup (pv 3) pe_int (fun _ _ => rfl)) pa_nil)))))), ?_⟩
    rw [show start N_law_taken [V.ref a.r, V.ref kl, V.int (i : Int)] = [some (V.ref a.r), some (V.ref kl), some (V.int (i : Int)), none] from rfl]
    walk_at "rd"
    walk_at "mk"
    walk_at "rd"
    refine ⟨.inl ⟨rfl, _, SqL.of S.hk⟩, kl, _, _, i, _, rfl, rfl, S.hk, by omega, by omega, seqIx (by rw [List.length_map]; exact hi2), gE_at hi2, ?_⟩
    rw [show (rf ke).eraseIdx i = rf (ke.eraseIdx i) from map_erase _ _ _]
    have f1 : Fr [kl] H (upd H kl (.lst (rf (ke.eraseIdx i)))) := fr_upd (by simp)
    have n1 : NoTup H [kl] := S.notup.mono (by simp)
    have R1 := S.at_.fr f1 (by simp only [List.mem_singleton]; exact fun b hb e => S.nk (e ▸ hb)) n1
    have hte := tup_fr f1 n1 (S.kt _ (gE_mem hi2))
    refine metR.mk R1.ob (nM _ _ _ _ _ (by decide +kernel) (by decide +kernel) (by decide +kernel) (by decide +kernel) (by decide +kernel) (by decide +kernel)) (ixT1 (n := (gE ke i).2.1) (c := (gE ke i).2.2) hte ?_)
    refine ⟨a, pt, wh, cm, lo, hi, vl ke, _, rfl, R1, S.ok, by rw [List.length_map]; omega, fun h => absurd (cm_gE hi2) h, fun j t ht q lo' hi3 H2 R2 O2 _ _ f2 => ?_⟩
    have ej : t = (gE ke i).2 := ks_uniq S.ok.nd (List.mem_of_getElem? ht) (vl_gE hi2) q
    have eji : j = i := nd_ix S.ok.nd (x := (gE ke i).2.2) (by rw [List.getElem?_map, ht, ej]; rfl) (by rw [List.getElem?_map, vl_get hi2]; rfl)
    subst eji
    rw [ej]
    obtain ⟨S2, g2⟩ := S.take f1 upd_same R2 O2 f2
    refine ixT0 (n := (gE ke j).2.1) (c := (gE ke j).2.2) (tup_fr f2 R1.notup hte) ⟨_, _, rfl, ?_⟩
    rw [decide_eq_true rfl]
    exact hQ lo' hi3 H2 S2 g2
theorem ok_law_taken_here (T : Tx K mg) (F_law_taken : Fn P w K mg base 6 (He.ga K "_law_taken") P_law_taken (spTaken6 K)) {fd : FuncData} (F : FnP K "_law_taken_here" "_law_taken_here" s_law_taken_here (He.ga K "_law_taken_here") fd) : Fn P w K mg base 7 (He.ga K "_law_taken_here") P_law_taken_here (spHere6 K) := by
  refine fn_ok F sc_law_taken_here (fun vs H Q E h => ?_) (fun _ _ _ _ _ _ us hl => match us, hl with | [_, _, _], _ => rfl) (fun cdv A outer s0 H vs Q E hr h => ?_)
  · obtain ⟨a, kl, pt, wh, cm, lo, hi, ke, x, rfl, _⟩ := h
    rfl
  · obtain ⟨a, kl, pt, wh, cm, lo, hi, ke, x, rfl, S, hl, hx, hm, hQ⟩ := h
    have hu64 := hr.units
    have hu0 := hr.units0
    have hu65 := hr.units65
    refine ⟨_, (pss_one (ps_ret (pe_and (pe_cmpR (op_inD hu65) (pv 2) (pv 1) rfl) (pe_one (pe_callF F_law_taken hr T.g__law_taken (fun _ => nopass) (pa_cons (pv 0) (pa_cons (pv 1) (pa_cons (pe_bm PySem.F.plainAttrs_list PySem.F.slot_list_index PySem.F.type_list_index (mt_indexD hu65) (pv 1) (pa_cons (pv 2) pa_nil)) pa_nil)))))))), ?_⟩
    rw [show start N_law_taken_here [V.ref a.r, V.ref kl, V.ref x.1] = [some (V.ref a.r), some (V.ref kl), some (V.ref x.1)] from rfl]
    walk_at "rd"
    walk_at "mk"
    walk_at "rd"
    obtain ⟨j, hj⟩ := mem_iff_get.mp hm
    have hjl := lt_of_get hj
    rw [List.length_map] at hjl
    refine in_l (dp_t hx) (dp_rf S.hk S.kt) hm ⟨true, rfl, (if_pos rfl).mpr ⟨.inl ⟨rfl, _, SqL.of S.hk⟩, ?_⟩⟩
    refine index_l (dp_t hx) (dp_rf S.hk S.kt) hj S.ok.nd ⟨a, kl, pt, wh, cm, lo, hi, ke, j, rfl, S, hl, hjl, fun lo' hi' H2 S2 f2 => ?_⟩
    exact hQ lo' hi' _ H2 S2 (List.length_eraseIdx_le ke j) f2
theorem ok_law_asked (T : Tx K mg) (F_law_no_thing : Fn P w K mg base 6 (He.ga K "_law_no_thing") P_law_no_thing (spNoTh6 K)) (F_law_taken_here : Fn P w K mg base 7 (He.ga K "_law_taken_here") P_law_taken_here (spHere6 K)) {fd : FuncData} (F : FnP K "_law_asked" "_law_asked" s_law_asked (He.ga K "_law_asked") fd) : Fn P w K mg base 8 (He.ga K "_law_asked") P_law_asked (spAsked6 K) := by
  refine fn_ok F sc_law_asked (fun vs H Q E h => ?_) (fun _ _ _ _ _ _ us hl => match us, hl with | [_, _, _], _ => rfl) (fun cdv A outer s0 H vs Q E hr h => ?_)
  · obtain ⟨a, kl, pt, wh, cm, lo, hi, ke, c, rfl, _⟩ := h
    rfl
  · obtain ⟨a, kl, pt, wh, cm, lo, hi, ke, c, rfl, S, hl, hQ⟩ := h
    have hu64 := hr.units
    have hu0 := hr.units0
    have hu65 := hr.units65
    refine ⟨_, (pss_cons (ps_setLc (i := 3) (own := [("_law_one", 4)]) (g := gName 4) (by rfl) sc_law_asked.nd rfl rfl (sw_true rfl rfl rfl (by decide +kernel)) (pi_list (pv 1)) (blkOk_by (own := [("_law_one", 4)]) (N := N_law_asked) (sc := defScope s_law_asked) (by decide +kernel)) (fun _ _ _ _ _ => pg_name (i := 4) sc_law_asked.nd rfl (Or.inl rfl)) (fun _ _ _ _ _ => (pts_one (pt_cmpR op_eq (pe_ix (r := rIxT K) ix_tup (pv 4) pe_int (fun _ _ => rfl)) (pv 2) (nomark _)))) (fun _ _ _ _ _ => (pv 4)))
    (pss_cons (ps_if (pt_cmpR (op_eqD hu64) (pv 3) (pe_lst pa_nil) (nomark _)) (pss_one (ps_ret (pe_callF F_law_no_thing hr T.g__law_no_thing (fun _ => nopass) (pa_cons (pv 0) (pa_cons (pv 2) pa_nil))))) pss_nil)
    (pss_one (ps_ret (pe_callF F_law_taken_here hr T.g__law_taken_here (fun _ => nopass) (pa_cons (pv 0) (pa_cons (pv 1) (pa_cons (pe_ix ix_list (pv 3) pe_int (fun _ _ => rfl)) pa_nil)))))))), ?_⟩
    rw [show start N_law_asked [V.ref a.r, V.ref kl, V.int c] = [some (V.ref a.r), some (V.ref kl), some (V.int c), none, none] from rfl]
    walk_at "rd"
    walk_at "mk"
    walk_at "rd"
    refine ⟨V.ref kl, rfl, kl, rfl, ⟨_, SqL.of S.hk⟩, fun D hD => lc_list (xs := rf ke) (AsW kl ke c D H) ⟨_, rfl, ?_⟩ (fun i H' _ e => ?_) (fun i x H' hx e => ?_) (fun H' e => ?_)⟩
    · rfl
    · obtain ⟨l, hl, e⟩ := e
      rw [e]
      exact SqL.of (by rw [upd_ne (ne_of_none S.hk hD)]; exact S.hk)
    · obtain ⟨l, hel, e⟩ := e
      subst e
      have hi := lt_of_get hx
      rw [List.length_map] at hi
      rw [gE_at hi] at hx
      have hx := (Option.some.inj hx).symm
      subst hx
      have S4 := S.same (same_new (o := .lst (rf l)) hD)
      walk_at "rd"
      refine ⟨rfl, _, rfl, ixT1 (n := (gE ke i).2.1) (c := (gE ke i).2.2) (S4.kt _ (gE_mem hi)) ⟨_, rfl, ?_⟩⟩
      rw [rEq_int]
      refine ⟨_, rfl, ?_⟩
      have et : ke.take (i + 1) = ke.take i ++ [gE ke i] := by rw [List.take_add_one, gE_some hi]; rfl
      by_cases cc : (gE ke i).2.2 = c
      · rw [decide_eq_true cc]
        have le := List.length_filter_le (fun e : En => decide (e.2.2 = c)) (ke.take i)
        have le2 := List.length_take_le i ke
        refine (if_pos rfl).mpr ⟨_, rfl, _, upd_same, by rw [List.length_map, hel]; omega, _, rfl, ?_⟩
        rw [upd_upd, hel, et, List.filter_append, List.filter_cons_of_pos (by exact decide_eq_true cc), List.filter_nil]
        exact congrArg (fun z => upd H D (.lst z)) (rf_snoc _ _)
      · rw [decide_eq_false cc]
        refine (if_neg (by decide)).mpr ⟨_, rfl, ?_⟩
        rw [hel, et, List.filter_append, List.filter_cons_of_neg (by simp [cc]), List.filter_nil, List.append_nil]
    · obtain ⟨l, hel, e⟩ := e
      rw [List.length_map, List.take_of_length_le (Nat.le_refl _)] at hel
      have s1 : Same H H' := by rw [e]; exact same_new hD
      have g1 : H' D = some (.lst (rf l)) := by rw [e]; exact upd_same
      clear e
      intro p hp
      have S1 := S.same s1
      have s2 := same_new (o := .lst []) hp
      have S2 := S1.same s2
      have hin : ∀ z ∈ l, z ∈ ke ∧ z.2.2 = c := fun z hz => by
        rw [hel] at hz
        have := List.mem_filter.mp hz
        exact ⟨this.1, of_decide_eq_true this.2⟩
      have tl2 : Tup (upd H' p (.lst [])) l := fun z hz => S2.kt z (hin z hz).1
      refine eqD_l (l2 := []) (dp_rf (s2 _ _ g1) tl2) (dp_nil (SqL.of upd_same)) ⟨_, rfl, ?_⟩
      rw [nil_dec]
      by_cases ck : l = []
      · rw [decide_eq_true ck]
        have nc : c ∉ (vl ke).map (·.2) := fun m => by
          obtain ⟨u, hu, q⟩ := List.mem_map.mp m
          obtain ⟨z, hz, q2⟩ := List.mem_map.mp hu
          have : z ∈ l := by
            rw [hel]
            exact List.mem_filter.mpr ⟨hz, decide_eq_true (by rw [q2]; exact q)⟩
          rw [ck] at this
          cases this
        exact iteT ⟨a, pt, wh, cm, lo, hi, vl ke, c, rfl, S2.at_, S.ok, by rw [List.length_map]; omega, nc, fun H3 s3 => hQ lo hi ke H3 (S2.same s3) (Nat.le_refl _) (Fr.of_same fun b o e => s3 _ _ (s2 _ _ (s1 _ _ e)))⟩
      · rw [decide_eq_false ck]
        have h0 := List.length_pos_iff.mpr ck
        have m0 := gE_mem h0
        refine iteF (ixL_mk (SqL.of (s2 _ _ g1)) (at_of (j := 0) rfl (gE_at h0)) ⟨a, kl, pt, wh, cm, lo, hi, ke, gE l 0, rfl, S2, hl, tl2 _ m0, List.mem_map.mpr ⟨_, (hin _ m0).1, rfl⟩, fun lo' hi' ke' H3 S3 l3 f3 => hQ lo' hi' ke' H3 S3 l3 ((Fr.of_same fun b o e => s2 _ _ (s1 _ _ e)).trans f3)⟩)
theorem ok_law_turned (T : Tx K mg) (F_law_no_share : Fn P w K mg base 6 (He.ga K "_law_no_share") P_law_no_share (spNoSh6 K)) (F_Midrow_turn : Fn P w K mg base 5 (He.ma K (He.ga K "Midrow") "turn") P_Midrow_turn (spRTurn K)) {fd : FuncData} (F : FnP K "_law_turned" "_law_turned" s_law_turned (He.ga K "_law_turned") fd) : Fn P w K mg base 7 (He.ga K "_law_turned") P_law_turned (spTurned6 K) := by
  refine fn_ok F sc_law_turned (fun vs H Q E h => ?_) (fun _ _ _ _ _ _ us hl => match us, hl with | [_, _, _], _ => rfl) (fun cdv A outer s0 H vs Q E hr h => ?_)
  · obtain ⟨a, kl, st, pt, wh, cm, lo, hi, ke, c, rfl, _⟩ := h
    rfl
  · obtain ⟨a, kl, st, pt, wh, cm, lo, hi, ke, c, rfl, S, hl, hQ⟩ := h
    have hu64 := hr.units
    have hu0 := hr.units0
    have hu65 := hr.units65
    refine ⟨_, (pss_cons (ps_set (i := 3) sc_law_turned.nd rfl (Or.inl rfl) (pe_op op_add pe_int (pe_op op_mod (pv 2) pe_int)))
    (pss_cons (ps_set (i := 4) sc_law_turned.nd rfl (Or.inl rfl) (pe_op op_mod (pe_op op_fdiv (pv 2) pe_int) (pe_op op_add (pv 3) pe_int)))
    (pss_cons (ps_if (pt_cmpR op_eq (pe_op op_mod (pe_op op_fdiv (pv 2) pe_int) pe_int) pe_int (nomark _)) (pss_cons (ps_set (i := 3) sc_law_turned.nd rfl (Or.inl rfl) (pe_op op_add pe_int (pe_op op_mod (pe_op op_fdiv (pv 2) pe_int) pe_int)))
    (pss_one (ps_set (i := 4) sc_law_turned.nd rfl (Or.inl rfl) (pe_op op_mod (pe_op op_fdiv (pv 2) pe_int) (pe_op op_add (pv 3) pe_int))))) pss_nil)
    (pss_cons (ps_if (pt_cmpR op_eq (pe_op op_mod (pv 2) pe_int) pe_int (nomark _)) (pss_cons (ps_set (i := 5) sc_law_turned.nd rfl (Or.inl rfl) (pe_ix ix_list (pe_lst (pa_cons (pe_tup (pa_cons (pe_op op_sub (pe_un un_neg pe_int) (pv 4)) (pa_cons (pv 3) pa_nil))) (pa_cons (pe_tup (pa_cons (pe_op op_add (pe_op op_add (pv 3) pe_int) (pv 4)) (pa_cons (pv 3) pa_nil))) (pa_cons (pe_tup (pa_cons (pv 4) (pa_cons (pe_un un_neg (pv 4)) pa_nil))) (pa_cons (pe_tup (pa_cons (pe_un un_neg pe_int) (pa_cons (pe_un un_neg pe_int) pa_nil))) pa_nil))))) (pe_op op_mod (pe_op op_fdiv (pv 2) pe_int) pe_int) (fun _ _ => rfl)))
    (pss_one (ps_ret (pe_callF F_law_no_share hr T.g__law_no_share (fun _ => nopass) (pa_cons (pv 0) (pa_cons (pe_ix ix_tup (pv 5) pe_int (fun _ _ => rfl)) (pa_cons (pe_ix ix_tup (pv 5) pe_int (fun _ _ => rfl)) pa_nil))))))) pss_nil)
    (pss_cons (ps_expr (pe_methF (pv 0) T.cl_Midrow T.m_Midrow_turn F_Midrow_turn hr (fun _ => nopass) (pa_cons (pv 4) (pa_cons (pv 3) pa_nil))))
    (pss_cons (ps_asg (pv 4) (pg_sub (pv 1) pe_int set_list))
    (pss_cons (ps_asg (pv 3) (pg_sub (pv 1) pe_int set_list))
    (pss_one (ps_ret pe_bl))))))))), ?_⟩
    rw [show start N_law_turned [V.ref a.r, V.ref st, V.int c] = [some (V.ref a.r), some (V.ref st), some (V.int c), none, none, none] from rfl]
    walk_at "rd"
    walk_at "mk"
    walk_at "rd"
    refine ⟨by omega, ite2 (fun _ => ⟨by omega, ?a⟩) (fun _ => ?b)⟩
    case' a =>
      have w1 : 1 ≤ 1 + c / 200 % 1000003 := by omega
      have w2 : 1 + c / 200 % 1000003 ≤ 1000004 := by omega
      have p1 := Int.emod_nonneg (c / 7) (b := 1 + c / 200 % 1000003 + 1) (by omega)
      have p2 := Int.emod_lt_of_pos (c / 7) (b := 1 + c / 200 % 1000003 + 1) (by omega)
      revert w1 w2 p1 p2
      generalize c / 7 % (1 + c / 200 % 1000003 + 1) = p'
      generalize 1 + c / 200 % 1000003 = w'
    case' b =>
      have w1 : 1 ≤ 1 + c % 6 := by omega
      have w2 : 1 + c % 6 ≤ 1000004 := by omega
      have p1 := Int.emod_nonneg (c / 6) (b := 1 + c % 6 + 1) (by omega)
      have p2 := Int.emod_lt_of_pos (c / 6) (b := 1 + c % 6 + 1) (by omega)
      revert w1 w2 p1 p2
      generalize c / 6 % (1 + c % 6 + 1) = p'
      generalize 1 + c % 6 = w'
    all_goals
      intro w1 w2 p1 p2
      refine ite2 (fun _ => ?_) (fun _ => ?_)
      · intro q1 h1 q2 h2 q3 h3 q4 h4 q5 h5
        have s5 : Same H (upd (upd (upd (upd (upd H q1 (.tup [V.int (-1 - p'), V.int w'])) q2 (.tup [V.int (w' + 1 + p'), V.int w'])) q3 (.tup [V.int p', V.int (-p')])) q4 (.tup [V.int (-1), V.int (-1)])) q5 (.lst [V.ref q1, V.ref q2, V.ref q3, V.ref q4])) := fun b o e =>
          same_new h5 _ _ (same_new h4 _ _ (same_new h3 _ _ (same_new h2 _ _ (same_new h1 _ _ e))))
        have pk : ∀ j, j < 4 → ∃ q b0 b1, ([V.ref q1, V.ref q2, V.ref q3, V.ref q4] : List V)[j]? = some (V.ref q) ∧ (upd (upd (upd (upd (upd H q1 (.tup [V.int (-1 - p'), V.int w'])) q2 (.tup [V.int (w' + 1 + p'), V.int w'])) q3 (.tup [V.int p', V.int (-p')])) q4 (.tup [V.int (-1), V.int (-1)])) q5 (.lst [V.ref q1, V.ref q2, V.ref q3, V.ref q4])) q = some (.tup [V.int b0, V.int b1]) ∧ BadS b0 b1 ∧ b0.natAbs < 2 ^ 250 := fun j hj => by
          obtain rfl | rfl | rfl | rfl : j = 0 ∨ j = 1 ∨ j = 2 ∨ j = 3 := by omega
          · exact ⟨q1, _, _, rfl, same_new h5 _ _ (same_new h4 _ _ (same_new h3 _ _ (same_new h2 _ _ upd_same))), by unfold BadS; omega, by omega⟩
          · exact ⟨q2, _, _, rfl, same_new h5 _ _ (same_new h4 _ _ (same_new h3 _ _ upd_same)), by unfold BadS; omega, by omega⟩
          · exact ⟨q3, _, _, rfl, same_new h5 _ _ (same_new h4 _ _ upd_same), by unfold BadS; omega, by omega⟩
          · exact ⟨q4, _, _, rfl, same_new h5 _ _ upd_same, by unfold BadS; omega, by omega⟩
        have g5 : (upd (upd (upd (upd (upd H q1 (.tup [V.int (-1 - p'), V.int w'])) q2 (.tup [V.int (w' + 1 + p'), V.int w'])) q3 (.tup [V.int p', V.int (-p')])) q4 (.tup [V.int (-1), V.int (-1)])) q5 (.lst [V.ref q1, V.ref q2, V.ref q3, V.ref q4])) q5 = some (.lst [V.ref q1, V.ref q2, V.ref q3, V.ref q4]) := upd_same
        revert s5 pk g5
        generalize upd (upd (upd (upd (upd H q1 (.tup [V.int (-1 - p'), V.int w'])) q2 (.tup [V.int (w' + 1 + p'), V.int w'])) q3 (.tup [V.int p', V.int (-p')])) q4 (.tup [V.int (-1), V.int (-1)])) q5 (.lst [V.ref q1, V.ref q2, V.ref q3, V.ref q4]) = H5
        intro s5 pk g5
        obtain ⟨j, hj, ej⟩ := modlt (c / 5) (n := 4) (by decide)
        obtain ⟨q, b0, b1, gq, hq, hB, bb⟩ := pk j hj
        have S5 := S.same s5
        refine ixL_mk (SqL.of g5) (at_of (j := j) ej gq) (ixT_mk (SqT.of hq) rfl (ixT_mk (SqT.of hq) rfl ?_))
        exact ⟨a, pt, wh, cm, lo, hi, vl ke, b0, b1, rfl, S5.sr.at_, S5.sr.ok, by rw [List.length_map]; omega, bb, hB, fun H6 s6 => hQ _ _ _ _ _ (S5.same s6) (Fr.of_same fun b o e => s6 _ _ (s5 _ _ e))⟩
      · have nB : ¬ BadS p' w' := by unfold BadS; omega
        refine metR.mk S.sr.at_.ob (nM _ _ _ _ _ (by decide +kernel) (by decide +kernel) (by decide +kernel) (by decide +kernel) (by decide +kernel) (by decide +kernel)) ⟨a, pt, wh, cm, lo, hi, vl ke, p', w', rfl, S.sr.at_, S.sr.ok, by rw [List.length_map]; omega, by omega, fun z => absurd z nB, fun _ _ lo' hi' H3 R3 O3 f3 => ?_, .inr (by omega)⟩
        have f3' : Fr (PRK a kl) H H3 := f3.mono fun b hb => List.mem_cons_of_mem _ hb
        have S3 : StR K a kl H3 p' w' cm lo' hi' ke := ⟨R3, O3, f3 _ _ S.sr.hk S.sr.nk, fun e he => tup_fr f3 S.sr.at_.notup (S.sr.kt e he), S.sr.nk⟩
        have g3 := f3' _ _ S.hs S.ns
        refine ⟨st, _, 1, 1, rfl, rfl, g3, ixN_of (j := 1) (by show 1 < 3; decide), st, _, 2, 2, rfl, rfl, upd_same, ixN_of (j := 2) (by show 2 < 3; decide), ?_⟩
        rw [upd_upd]
        rw [show (([V.int cm, V.int pt, V.int wh].set 1 (V.int p')).set 2 (V.int w')) = [V.int cm, V.int p', V.int w'] from rfl]
        have f4 : Fr [st] H3 (upd H3 st (.lst [V.int cm, V.int p', V.int w'])) := fr_upd (by simp)
        have S4 := S3.fr f4 (by simp only [List.mem_singleton]; exact fun b hb e => S.ns (e ▸ hb)) (fun b hb xs => by rw [List.mem_singleton.mp hb, g3]; simp)
        exact hQ _ _ _ _ _ ⟨S4, upd_same, S.ns⟩ ((f3'.mono fun b hb => List.mem_cons_of_mem _ hb).trans (f4.mono (by simp)))
theorem ok_law_at_place (T : Tx K mg)  {fd : FuncData} (F : FnP K "_law_at_place" "_law_at_place" s_law_at_place (He.ga K "_law_at_place") fd) : Fn P w K mg base 1 (He.ga K "_law_at_place") P_law_at_place spPlace6 := by
  refine fn_ok F sc_law_at_place (fun vs H Q E h => ?_) (fun _ _ _ _ _ _ us hl => match us, hl with | [_, _, _], _ => rfl) (fun cdv A outer s0 H vs Q E hr h => ?_)
  · obtain ⟨kl, st, b, pt, wh, cm, xs, rfl, _⟩ := h
    rfl
  · obtain ⟨kl, st, b, pt, wh, cm, xs, rfl, hk, hs, hl, hp, nB, hb, hQ⟩ := h
    have hu64 := hr.units
    have hu0 := hr.units0
    have hu65 := hr.units65
    refine ⟨_, (pss_cons (ps_set (i := 3) sc_law_at_place.nd rfl (Or.inl rfl) (pe_op op_add (pv 0) pe_int))
    (pss_cons (ps_if (pt_cmpR op_lt (pe_op op_mul (pv 3) (pe_ix ix_list (pv 2) pe_int (fun _ _ => rfl))) (pe_op op_mul (pe_callB call_len_seq rfl T.z_len PySem.boot_len (pa_cons (pv 1) pa_nil)) (pe_ix ix_list (pv 2) pe_int (fun _ _ => rfl))) (nomark _)) (pss_one (ps_ret pe_bl)) pss_nil)
    (pss_one (ps_ret (pe_or (pe_cmpR op_eq (pv 0) pe_int (nomark _)) (pe_one (pe_cmpR op_lt (pe_op op_mul (pv 0) (pe_ix ix_list (pv 2) pe_int (fun _ _ => rfl))) (pe_op op_mul (pe_callB call_len_seq rfl T.z_len PySem.boot_len (pa_cons (pv 1) pa_nil)) (pe_ix ix_list (pv 2) pe_int (fun _ _ => rfl))) (nomark _)))))))), ?_⟩
    rw [show start N_law_at_place [V.int (b : Int), V.ref kl, V.ref st] = [some (V.int (b : Int)), some (V.ref kl), some (V.ref st), none] from rfl]
    walk_at "rd"
    walk_at "mk"
    walk_at "rd"
    obtain ⟨p1, p2, p3, p4⟩ := place_spec (m := (xs.length : Int)) (by omega) nB
    rw [← hb] at p1 p2 p3 p4
    refine ixL_mk (SqL.of hs) rfl ⟨_, rfl, .inl ⟨by omega, by omega⟩, _, .inl (SqL.of hk), ixL_mk (SqL.of hs) rfl ⟨_, rfl, .inl ⟨by omega, by omega⟩, (if_neg (by omega)).mpr (ite2 (fun _ => hQ) (fun c1 => ?_))⟩⟩
    refine ixL_mk (SqL.of hs) rfl ⟨_, rfl, .inl ⟨by omega, by omega⟩, _, .inl (SqL.of hk), ixL_mk (SqL.of hs) rfl ⟨_, rfl, .inl ⟨by omega, by omega⟩, ?_⟩⟩
    rw [decide_eq_true ?_]
    · exact hQ
    · rcases p4 with q | q
      · omega
      · rw [show ((b : Int) + 1 - 1) = (b : Int) by omega] at q
        exact q
end
end Mp

namespace Mp
open PySem PySem.Spec PyProof.Rows L2
local macro_rules | `(tactic| walk_at "rd") => `(tactic| try simp only [tSeq, tAsg, gName, tVar, tC, tOp, rI0, rI, tTest, tB, tIfS, tNext, tBreak, tCont, tRet, tRetN, tDrop, tCons, tNil, tCallS, tCB, tAnd, tOr, tNot, tAndV, tOrV, tNotV, tUn, rU, tIf, tChain, gCons, gNil, gSub, tFld_r, sFld_r, sFldAug_r, tDGet_r, tDIn_r, tDNotIn_r, sDPut_r, tDPop1_r, tMethF_r, tMakeF, tBits, tSl, tPart, tDNewK, cxOf_K, tBM, tBM0, tTup, tLst, List.length_cons, List.length_nil, Nat.reduceAdd, Nat.zero_add, PySem.sizeLine_eq, Nat.reduceLeDiff,
  List.getElem?_cons_zero, List.getElem?_cons_succ, Option.some.injEq, exists_eq_left', List.set_cons_zero, List.set_cons_succ, exists_eq_left, V.int.injEq, V.bl.injEq, V.ref.injEq, List.cons.injEq, and_true, true_and, and_assoc, exists_and_left, decide_eq_true_eq,
  rEq_int, rNe_int, cdiv_iff, cpow10, Int.reduceLT, Int.reduceLE, Int.reduceToNat, Int.reducePow, Int.reduceNeg, Int.reduceSub, Int.reduceAdd, Int.reduceMul, Nat.reducePow, Nat.reduceLT, Bool.not_eq_true', Bool.false_eq_true, if_true, if_false, not_true_eq_false, not_false_eq_true, ite_not, Bool.not_true, Bool.not_false, reduceCtorEq, ipI, tAug, isi_int_int, isi_int_bool, isi_bool_bool, Bool.true_eq_false, reduceIte])
local macro_rules | `(tactic| walk_at "fo") => `(tactic| try simp only [tFor_enum, tFor_zip, tFor_list, tFor_r1])
local macro_rules | `(tactic| walk_at "mk") => `(tactic| try simp only [tMake, tCallSD, List.nil_append, List.cons_append, List.append_nil])

def spDeed6 (K : PySem.W.Frag) : Sp := fun vs H Q _ => ∃ (a : RA) (kl st : Addr) (pt wh cm : Int) (lo hi : Sx) (ke : List En) (c : Int), vs = [.ref a.r, .ref kl, .ref st, .int c] ∧ St6 K a kl st H pt wh cm lo hi ke ∧ ke.length < 900 ∧
  ∀ pt' wh' cm' lo' hi' ke' H', St6 K a kl st H' pt' wh' cm' lo' hi' ke' → ke'.length ≤ ke.length + 1 → Fr (P6 a kl st) H H' → Q (.bl true) H'
/-- a pair of told ones: the piles' lists and their copies -/
structure HP (P : List Addr) (H : Hp) (h : Addr) : Prop where
  ex : ∃ (q q2 t1 t2 c1 c2 : Addr) (es fs : List En), H h = some (.tup [.ref q, .ref q2]) ∧ H q = some (.tup [.ref t1, .ref t2]) ∧ H q2 = some (.tup [.ref c1, .ref c2]) ∧ H t1 = some (.lst (rf es)) ∧ H t2 = some (.lst (rf fs)) ∧ H c1 = some (.lst (rf es)) ∧ H c2 = some (.lst (rf fs)) ∧
    Tup H es ∧ Tup H fs ∧ t1 ∉ P ∧ t2 ∉ P ∧ c1 ∉ P ∧ c2 ∉ P
theorem HP.fr {P : List Addr} {H H' : Hp} {h : Addr} (X : HP P H h) (f : Fr P H H') (n : NoTup H P) : HP P H' h := by
  obtain ⟨q, q2, t1, t2, c1, c2, es, fs, h1, h2, h3, h4, h5, h6, h7, te, tf, n1, n2, n3, n4⟩ := X.ex
  exact ⟨q, q2, t1, t2, c1, c2, es, fs, tup_fr f n h1, tup_fr f n h2, tup_fr f n h3, f _ _ h4 n1, f _ _ h5 n2, f _ _ h6 n3, f _ _ h7 n4, fun e he => tup_fr f n (te e he), fun e he => tup_fr f n (tf e he), n1, n2, n3, n4⟩
theorem HP.same {P : List Addr} {H H' : Hp} {h : Addr} (X : HP P H h) (f : Same H H') : HP P H' h := by
  obtain ⟨q, q2, t1, t2, c1, c2, es, fs, h1, h2, h3, h4, h5, h6, h7, te, tf, n1, n2, n3, n4⟩ := X.ex
  exact ⟨q, q2, t1, t2, c1, c2, es, fs, f _ _ h1, f _ _ h2, f _ _ h3, f _ _ h4, f _ _ h5, f _ _ h6, f _ _ h7, fun e he => f _ _ (te e he), fun e he => f _ _ (tf e he), n1, n2, n3, n4⟩
abbrev P7 (a : RA) (kl st hd : Addr) : List Addr := hd :: P6 a kl st
def spLook6 (K : PySem.W.Frag) : Sp := fun vs H Q _ => ∃ (a : RA) (kl st hd : Addr) (pt wh cm : Int) (lo hi : Sx) (ke : List En) (fl : Bool) (hs : List Addr), vs = [.ref a.r, .ref kl, .ref st, .bl fl, .ref hd] ∧ St6 K a kl st H pt wh cm lo hi ke ∧ ke.length < 900 ∧ H hd = some (.lst (hs.map V.ref)) ∧ hd ∉ P6 a kl st ∧ hs.length < 900 ∧
  ∀ h H', St6 K a kl st H' pt wh cm lo hi ke → H' hd = some (.lst ((hs ++ [h]).map V.ref)) → HP (P7 a kl st hd) H' h → Fr [hd] H H' → Q (.bl true) H'
section
variable {P : Program} {w : World} {K : PySem.W.Frag} {mg : Str → Option Value} {base : Heap}
theorem ok_law_deed (T : Tx K mg) (F_Midrow_share : Fn P w K mg base 2 (He.ma K (He.ga K "Midrow") "share") P_Midrow_share (spRShare K)) (F_Midrow_piles : Fn P w K mg base 2 (He.ma K (He.ga K "Midrow") "piles") P_Midrow_piles (spRPiles K)) (F_law_number : Fn P w K mg base 1 (He.ga K "_law_number") P_law_number spNum) (F_law_put : Fn P w K mg base 6 (He.ga K "_law_put") P_law_put (spPut6 K)) (F_law_taken : Fn P w K mg base 6 (He.ga K "_law_taken") P_law_taken (spTaken6 K)) (F_law_taken_here : Fn P w K mg base 7 (He.ga K "_law_taken_here") P_law_taken_here (spHere6 K)) (F_law_asked : Fn P w K mg base 8 (He.ga K "_law_asked") P_law_asked (spAsked6 K)) (F_law_turned : Fn P w K mg base 7 (He.ga K "_law_turned") P_law_turned (spTurned6 K)) {fd : FuncData} (F : FnP K "_law_deed" "_law_deed" s_law_deed (He.ga K "_law_deed") fd) : Fn P w K mg base 9 (He.ga K "_law_deed") P_law_deed (spDeed6 K) := by
  refine fn_ok F sc_law_deed (fun vs H Q E h => ?_) (fun _ _ _ _ _ _ us hl => match us, hl with | [_, _, _, _], _ => rfl) (fun cdv A outer s0 H vs Q E hr h => ?_)
  · obtain ⟨a, kl, st, pt, wh, cm, lo, hi, ke, c, rfl, _⟩ := h
    rfl
  · obtain ⟨a, kl, st, pt, wh, cm, lo, hi, ke, c, rfl, S, hl, hQ⟩ := h
    have hu64 := hr.units
    have hu65 := hr.units65
    refine ⟨_, (pss_cons (ps_set (i := 4) sc_law_deed.nd rfl (Or.inl rfl) (pe_op op_mod (pv 3) pe_int))
    (pss_cons (ps_set (i := 5) sc_law_deed.nd rfl (Or.inl rfl) (pe_op op_fdiv (pv 3) pe_int))
    (pss_cons (ps_if (PW.pt (pw_or (pt_cmpR op_lt (pv 4) pe_int (nomark _)) (pw_or1 (PW.pt (pw_and (pt_cmpR op_lt (pv 4) pe_int (nomark _)) (pw_and1 (pt_cmpR (op_eqD hu64) (pv 1) (pe_lst pa_nil) (nomark _)))))))) (pss_one (ps_ret (pe_callF F_law_put hr T.g__law_put (fun _ => nopass) (pa_cons (pv 0) (pa_cons (pv 1) (pa_cons (pv 2) (pa_cons (pe_callF F_law_number hr T.g__law_number (fun _ => nopass) (pa_cons (pv 5) pa_nil)) pa_nil))))))) pss_nil)
    (pss_cons (ps_if (pt_cmpR op_eq (pv 4) pe_int (nomark _)) (pss_one (ps_ret (pe_callF F_law_put hr T.g__law_put (fun _ => nopass) (pa_cons (pv 0) (pa_cons (pv 1) (pa_cons (pv 2) (pa_cons (pe_ix ix_tup (pe_ix ix_list (pv 1) (pe_op op_mod (pv 5) (pe_callB call_len_seq rfl T.z_len PySem.boot_len (pa_cons (pv 1) pa_nil))) (fun _ _ => rfl)) pe_int (fun _ _ => rfl)) pa_nil))))))) pss_nil)
    (pss_cons (ps_if (pt_cmpR op_eq (pv 4) pe_int (nomark _)) (pss_cons (ps_set (i := 6) sc_law_deed.nd rfl (Or.inl rfl) (pe_op op_sub (pe_op op_add (pe_ix ix_tup (pe_methF0 (pv 0) T.cl_Midrow T.m_Midrow_share F_Midrow_share hr (fun _ => nopass)) pe_int (fun _ _ => rfl)) (pe_op op_mod (pv 5) pe_int)) pe_int))
    (pss_one (ps_ret (pe_callF F_law_put hr T.g__law_put (fun _ => nopass) (pa_cons (pv 0) (pa_cons (pv 1) (pa_cons (pv 2) (pa_cons (pe_callB (call_max2 rfl) rfl T.z_max (by decide +kernel) (pa_cons (pe_op op_sub pe_int (pe_op op_pow pe_int pe_int)) (pa_cons (pe_callB (call_min2 rfl) rfl T.z_min (by decide +kernel) (pa_cons (pe_op op_sub (pe_op op_pow pe_int pe_int) pe_int) (pa_cons (pv 6) pa_nil))) pa_nil))) pa_nil)))))))) pss_nil)
    (pss_cons (ps_if (pt_cmpR op_eq (pv 4) pe_int (nomark _)) (pss_one (ps_ret (pe_callF F_law_taken_here hr T.g__law_taken_here (fun _ => nopass) (pa_cons (pv 0) (pa_cons (pv 1) (pa_cons (pe_ix ix_list (pv 1) pe_int (fun _ _ => rfl)) pa_nil)))))) pss_nil)
    (pss_cons (ps_if (pt_cmpR op_eq (pv 4) pe_int (nomark _)) (pss_one (ps_ret (pe_callF F_law_taken_here hr T.g__law_taken_here (fun _ => nopass) (pa_cons (pv 0) (pa_cons (pv 1) (pa_cons (pe_methF0 (pv 0) T.cl_Midrow T.m_Midrow_share F_Midrow_share hr (fun _ => nopass)) pa_nil)))))) pss_nil)
    (pss_cons (ps_if (PW.pt (pw_and (pt_cmpR op_eq (pv 4) pe_int (nomark _)) (pw_and1 (pt_cmpR (op_neD hu64) (pe_ix ix_tup (pe_methF0 (pv 0) T.cl_Midrow T.m_Midrow_piles F_Midrow_piles hr (fun _ => nopass)) pe_int (fun _ _ => rfl)) (pe_lst pa_nil) (nomark _))))) (pss_one (ps_ret (pe_callF F_law_taken_here hr T.g__law_taken_here (fun _ => nopass) (pa_cons (pv 0) (pa_cons (pv 1) (pa_cons (pe_ix ix_list (pe_ix ix_tup (pe_methF0 (pv 0) T.cl_Midrow T.m_Midrow_piles F_Midrow_piles hr (fun _ => nopass)) pe_int (fun _ _ => rfl)) pe_int (fun _ _ => rfl)) pa_nil)))))) pss_nil)
    (pss_cons (ps_if (pt_cmpR op_lt (pv 4) pe_int (nomark _)) (pss_one (ps_ret (pe_callF F_law_taken hr T.g__law_taken (fun _ => nopass) (pa_cons (pv 0) (pa_cons (pv 1) (pa_cons (pe_op op_mod (pv 5) (pe_callB call_len_seq rfl T.z_len PySem.boot_len (pa_cons (pv 1) pa_nil))) pa_nil)))))) pss_nil)
    (pss_cons (ps_if (pt_cmpR op_lt (pv 4) pe_int (nomark _)) (pss_one (ps_ret (pe_callF F_law_turned hr T.g__law_turned (fun _ => nopass) (pa_cons (pv 0) (pa_cons (pv 2) (pa_cons (pv 5) pa_nil)))))) pss_nil)
    (pss_one (ps_ret (pe_callF F_law_asked hr T.g__law_asked (fun _ => nopass) (pa_cons (pv 0) (pa_cons (pv 1) (pa_cons (pe_op op_sub (pe_op op_mod (pv 5) (pe_op op_add (pe_ix ix_list (pv 2) pe_int (fun _ _ => rfl)) pe_int)) pe_int) pa_nil)))))))))))))))), ?_⟩
    rw [show start N_law_deed [V.ref a.r, V.ref kl, V.ref st, V.int c] = [some (V.ref a.r), some (V.ref kl), some (V.ref st), some (V.int c), none, none, none] from rfl]
    walk_at "rd"
    have tk : ∀ {H1 H2 : Hp}, Same H H1 → Fr (PRK a kl) H1 H2 → Fr (P6 a kl st) H H2 := fun s1 f => (Fr.of_same s1).trans (f.mono fun b hb => List.mem_cons_of_mem _ hb)
    have putC : ∀ (n : Int) {H1 : Hp}, Same H H1 → spPut6 K [.ref a.r, .ref kl, .ref st, .int n] H1 Q E0 := fun n H1 s1 =>
      ⟨a, kl, st, pt, wh, cm, lo, hi, ke, n, rfl, S.same s1, by omega, fun lo' hi' q H2 S2 f2 => hQ _ _ _ _ _ _ _ S2 (by simp) ((Fr.of_same s1).trans f2)⟩
    have hereC : ∀ (x : En) {H1 : Hp}, Same H H1 → H1 x.1 = some (tV x.2) → x.2 ∈ vl ke → spHere6 K [.ref a.r, .ref kl, .ref x.1] H1 Q E0 := fun x H1 s1 hx hm =>
      ⟨a, kl, pt, wh, cm, lo, hi, ke, x, rfl, S.sr.same s1, by omega, hx, hm, fun lo' hi' ke' H2 S2 l2 f2 => hQ _ _ _ _ _ _ _ ((S.same s1).up S2 f2) (by omega) (tk s1 f2)⟩
    have takenC : ∀ {H1 : Hp}, Same H H1 → ke ≠ [] → ∃ x, (SqL K H1 kl x ∨ SqT K H1 kl x) ∧ 0 < (x.length : Int) ∧ spTaken6 K [.ref a.r, .ref kl, .int (c / 16 % (x.length : Int))] H1 Q E0 := fun {H1} s1 ck => by
      have hp0 := List.length_pos_iff.mpr ck
      refine ⟨_, .inl (SqL.of (S.same s1).sr.hk), by rw [List.length_map]; omega, ?_⟩
      rw [List.length_map]
      obtain ⟨j, hj, ej⟩ := modlt (c / 16) hp0
      rw [ej]
      have le := List.length_eraseIdx_le ke j
      exact ⟨a, kl, pt, wh, cm, lo, hi, ke, j, rfl, S.sr.same s1, by omega, hj, fun lo' hi' H2 S2 f2 => hQ _ _ _ _ _ _ _ ((S.same s1).up S2 f2) (by omega) (tk s1 f2)⟩
    have lastC : if c % 16 < 14 then spTurned6 K [V.ref a.r, V.ref st, V.int (c / 16)] H Q E0 else rIxL K (V.ref st) (V.int 0) H fun x H1 => ∃ i, x = V.int i ∧ 0 < i + 12 ∧ spAsked6 K [V.ref a.r, V.ref kl, V.int (c / 16 % (i + 12) - 6)] H1 Q E0 := by
      refine ite2 (fun _ => ⟨a, kl, st, pt, wh, cm, lo, hi, ke, _, rfl, S, by omega, fun pt' wh' lo' hi' H2 S2 f2 => hQ _ _ _ _ _ _ _ S2 (by omega) f2⟩) (fun _ => ixL_mk (SqL.of S.hs) rfl ⟨_, rfl, by have := S.sr.ok.cm0; omega, ?_⟩)
      exact ⟨a, kl, pt, wh, cm, lo, hi, ke, _, rfl, S.sr, by omega, fun lo' hi' ke' H2 S2 l2 f2 => hQ _ _ _ _ _ _ _ (S.up S2 f2) (by omega) (tk (fun _ _ e => e) f2)⟩
    have numC : ∀ {H1 : Hp}, Same H H1 → spNum [V.int (c / 16)] H1 (fun x H1 => spPut6 K [V.ref a.r, V.ref kl, V.ref st, x] H1 Q E0) E0 := fun s1 => ⟨_, rfl, putC _ s1⟩
    refine ite2 (fun _ => numC fun _ _ e => e) (fun c0 => ite2 (fun c12 => ?_) (fun c12 => ?_))
    · intro p hp
      have s1 := same_new (o := .lst []) hp
      have S1 := S.same s1
      refine eqD_l (l2 := []) (dp_rf S1.sr.hk S1.sr.kt) (dp_nil (SqL.of upd_same)) ⟨_, rfl, ?_⟩
      rw [nil_dec]
      revert s1 S1
      generalize upd H p (.lst []) = H1
      intro s1 S1
      by_cases ck : ke = []
      · rw [decide_eq_true ck]
        exact iteT (numC s1)
      rw [decide_eq_false ck]
      have hp0 := List.length_pos_iff.mpr ck
      have hlo : lo.1 ≠ [] := fun z => by
        have := S.sr.ok.len
        obtain ⟨p1, _⟩ := place_spec (m := ((vl ke).length : Int)) (by rw [List.length_map]; omega) S.sr.ok.sh
        rw [z] at this
        simp only [List.length_nil] at this
        omega
      have mlo : ∀ e ∈ lo.1, e.2 ∈ vl ke := fun e he => S.sr.ok.mem.mpr (.inl ⟨e, he, rfl⟩)
      have mhi : ∀ e ∈ hi.1, e.2 ∈ vl ke := fun e he => S.sr.ok.mem.mpr (.inr ⟨e, he, rfl⟩)
      refine iteF (ite2 (fun _ => ?_) (fun _ => ite2 (fun _ => ?_) (fun _ => ite2 (fun _ => ?_) (fun _ => ite2 (fun _ => ?_) (fun _ => ite2 (fun _ => ?_) (fun _ => (if_pos c12).mpr (takenC s1 ck)))))))
      · refine ⟨_, .inl (SqL.of S1.sr.hk), by rw [List.length_map]; omega, ?_⟩
        rw [List.length_map]
        obtain ⟨j, hj, ej⟩ := modlt (c / 16) hp0
        rw [ej]
        exact ixL_mk (SqL.of S1.sr.hk) (at_gE hj) (ixT0 (n := (gE ke j).2.1) (c := (gE ke j).2.2) (S1.sr.kt _ (gE_mem hj)) (putC _ s1))
      · refine metR.mk S1.sr.at_.ob (nM _ _ _ _ _ (by decide +kernel) (by decide +kernel) (by decide +kernel) (by decide +kernel) (by decide +kernel) (by decide +kernel)) ⟨a, pt, wh, cm, lo, hi, vl ke, rfl, S1.sr.at_, fun z => absurd z hlo, fun e he top H2 s2 => ?_⟩
        have hem : e ∈ lo.1 := mem_iff_get.mpr ⟨0, he⟩
        exact ixT0 (n := e.2.1) (c := e.2.2) (s2 _ _ (S1.sr.at_.lo.tup e hem)) ⟨_, rfl, putC _ fun b o e => s2 _ _ (s1 _ _ e)⟩
      · exact ixL_mk (SqL.of S1.sr.hk) (at_of (j := 0) rfl (gE_at hp0)) (hereC (gE ke 0) s1 (S1.sr.kt _ (gE_mem hp0)) (vl_gE hp0))
      · refine metR.mk S1.sr.at_.ob (nM _ _ _ _ _ (by decide +kernel) (by decide +kernel) (by decide +kernel) (by decide +kernel) (by decide +kernel) (by decide +kernel)) ⟨a, pt, wh, cm, lo, hi, vl ke, rfl, S1.sr.at_, fun z => absurd z hlo, fun e he top H2 s2 => ?_⟩
        have hem : e ∈ lo.1 := mem_iff_get.mpr ⟨0, he⟩
        exact hereC e (fun b o e => s2 _ _ (s1 _ _ e)) (s2 _ _ (S1.sr.at_.lo.tup e hem)) (mlo e hem)
      · refine metR.mk S1.sr.at_.ob (nM _ _ _ _ _ (by decide +kernel) (by decide +kernel) (by decide +kernel) (by decide +kernel) (by decide +kernel) (by decide +kernel)) ⟨a, pt, wh, cm, lo, hi, vl ke, rfl, S1.sr.at_, fun q t1 t2 H2 _ _ _ _ gq g1 g2 s2 => ixT_mk (SqT.of gq) rfl fun p2 hp2 => ?_⟩
        have s3 := same_new (o := .lst []) hp2
        have s13 : Same H (upd H2 p2 (.lst [])) := fun b o e => s3 _ _ (s2 _ _ (s1 _ _ e))
        have S3 := S.same s13
        refine neD_l (l2 := []) (dp_rf (s3 _ _ g2) S3.sr.at_.hi.tup) (dp_nil (SqL.of upd_same)) ⟨_, rfl, ?_⟩
        rw [nil_dec]
        revert s13 S3
        generalize upd H2 p2 (.lst []) = H3
        intro s13 S3
        by_cases ch : hi.1 = []
        · rw [decide_eq_true ch]
          exact (if_neg (by decide)).mpr ((if_pos c12).mpr (takenC s13 ck))
        · rw [decide_eq_false ch]
          have h0 := List.length_pos_iff.mpr ch
          have m0 := gE_mem h0
          refine (if_pos rfl).mpr (metR.mk S3.sr.at_.ob (nM _ _ _ _ _ (by decide +kernel) (by decide +kernel) (by decide +kernel) (by decide +kernel) (by decide +kernel) (by decide +kernel)) ⟨a, pt, wh, cm, lo, hi, vl ke, rfl, S3.sr.at_, fun q t1 t2 H4 _ _ _ _ gq g1 g2 s4 => ixT_mk (SqT.of gq) rfl (ixL_mk (SqL.of g2) (at_of (j := 0) rfl (gE_at h0)) (hereC (gE hi.1 0) (fun b o e => s4 _ _ (s13 _ _ e)) (s4 _ _ (S3.sr.at_.hi.tup _ m0)) (mhi _ m0)))⟩)
    · exact (if_neg (by omega)).mpr ((if_neg (by omega)).mpr ((if_neg (by omega)).mpr ((if_neg (by omega)).mpr ((if_neg (by omega)).mpr ((if_neg (by omega)).mpr lastC)))))
end
end Mp

namespace Mp
open PySem PySem.Spec PyProof.Rows L2
local macro_rules | `(tactic| walk_at "rd") => `(tactic| try simp only [tSeq, tAsg, gName, tVar, tC, tOp, rI0, rI, tTest, tB, tIfS, tNext, tBreak, tCont, tRet, tRetN, tDrop, tCons, tNil, tCallS, tCB, tAnd, tOr, tNot, tAndV, tOrV, tNotV, tUn, rU, tIf, tChain, gCons, gNil, gSub, tFld_r, sFld_r, sFldAug_r, tDGet_r, tDIn_r, tDNotIn_r, sDPut_r, tDPop1_r, tMethF_r, tMakeF, tBits, tSl, tPart, tDNewK, cxOf_K, tBM, tBM0, tTup, tLst, List.length_cons, List.length_nil, Nat.reduceAdd, Nat.zero_add, PySem.sizeLine_eq, Nat.reduceLeDiff,
  List.getElem?_cons_zero, List.getElem?_cons_succ, Option.some.injEq, exists_eq_left', List.set_cons_zero, List.set_cons_succ, exists_eq_left, V.int.injEq, V.bl.injEq, V.ref.injEq, List.cons.injEq, and_true, true_and, and_assoc, exists_and_left, decide_eq_true_eq,
  rEq_int, rNe_int, cdiv_iff, cpow10, Int.reduceLT, Int.reduceLE, Int.reduceToNat, Int.reducePow, Int.reduceNeg, Int.reduceSub, Int.reduceAdd, Int.reduceMul, Nat.reducePow, Nat.reduceLT, Bool.not_eq_true', Bool.false_eq_true, if_true, if_false, not_true_eq_false, not_false_eq_true, ite_not, Bool.not_true, Bool.not_false, reduceCtorEq, ipI, tAug, isi_int_int, isi_int_bool, isi_bool_bool, Bool.true_eq_false, reduceIte])
local macro_rules | `(tactic| walk_at "fo") => `(tactic| try simp only [tFor_enum, tFor_zip, tFor_list, tFor_r1])
local macro_rules | `(tactic| walk_at "mk") => `(tactic| try simp only [tMake, tCallSD, List.nil_append, List.cons_append, List.append_nil])

theorem notIn_l {K : PySem.W.Frag} {H : Hp} {x y : V} {t : T} {l : List T} {Q : VK} (hx : Dp K H x (tD t)) (hy : Dp K H y (lD l)) (m : t ∈ l) (q : Q (.bl false) H) : rNotInD K x y H Q := by
  refine ⟨_, _, hx, hy, shaped_tD _, shaped_lD _, ?_⟩
  have e : ((l.map tD).any fun z => PyData.eqv z (tD t)) = true := List.any_eq_true.mpr ⟨tD t, List.mem_map.mpr ⟨t, m, rfl⟩, by rw [eqv_tD]; exact decide_eq_true rfl⟩
  rw [e]
  exact q
theorem St6.fr {K : PySem.W.Frag} {a : RA} {kl st : Addr} {H H' : Hp} {pt wh cm : Int} {lo hi : Sx} {ke : List En} (S : St6 K a kl st H pt wh cm lo hi ke) {P : List Addr} (f : Fr P H H') (h : ∀ b ∈ P6 a kl st, b ∉ P) (n : NoTup H P) : St6 K a kl st H' pt wh cm lo hi ke :=
  ⟨S.sr.fr f (fun b hb => h b (List.mem_cons_of_mem _ hb)) n, f _ _ S.hs (h st List.mem_cons_self), S.ns⟩
def LoW (ke : List En) (e : En) (D : Addr) (H : Hp) (i : Nat) (H' : Hp) : Prop := ∃ l : List En, l = (ke.take i).filter (fun x => lt2 x.2 e.2) ∧ H' = upd H D (.lst (rf l))
section
variable {P : Program} {w : World} {K : PySem.W.Frag} {mg : Str → Option Value} {base : Heap}
theorem ok_law_look (T : Tx K mg) (F_Midrow_share : Fn P w K mg base 2 (He.ma K (He.ga K "Midrow") "share") P_Midrow_share (spRShare K)) (F_Midrow_piles : Fn P w K mg base 2 (He.ma K (He.ga K "Midrow") "piles") P_Midrow_piles (spRPiles K)) (F_Midrow_many : Fn P w K mg base 1 (He.ma K (He.ga K "Midrow") "many") P_Midrow_many (spRMany K)) (F_Midrow_oldest : Fn P w K mg base 1 (He.ma K (He.ga K "Midrow") "oldest") P_Midrow_oldest (spROld K)) (F_Midrow_number_of : Fn P w K mg base 1 (He.ma K (He.ga K "Midrow") "number_of") P_Midrow_number_of (spRNum K)) (F_law_is : Fn P w K mg base 1 (He.ga K "_law_is") P_law_is spIs) (F_law_thing : Fn P w K mg base 2 (He.ga K "_law_thing") P_law_thing spThing) (F_law_form : Fn P w K mg base 3 (He.ga K "_law_form") P_law_form spForm6) (F_law_empty : Fn P w K mg base 5 (He.ga K "_law_empty") P_law_empty (spEmp6 K)) (F_law_at_place : Fn P w K mg base 1 (He.ga K "_law_at_place") P_law_at_place spPlace6) {fd : FuncData} (F : FnP K "_law_look" "_law_look" s_law_look (He.ga K "_law_look") fd) : Fn P w K mg base 6 (He.ga K "_law_look") P_law_look (spLook6 K) := by
  refine fn_ok F sc_law_look (fun vs H Q E h => ?_) (fun _ _ _ _ _ _ us hl => match us, hl with | [_, _, _, _, _], _ => rfl) (fun cdv A outer s0 H vs Q E hr h => ?_)
  · obtain ⟨a, kl, st, hd, pt, wh, cm, lo, hi, ke, fl, hs, rfl, _⟩ := h
    rfl
  · obtain ⟨a, kl, st, hd, pt, wh, cm, lo, hi, ke, fl, hs, rfl, S, hl, hhd, nhd, hsl, hQ⟩ := h
    have hu0 := hr.units0
    have hu64 := hr.units
    have hu65 := hr.units65
    obtain ⟨tl2, htl2, key2⟩ : ∃ tl : TS, PSs (cxOf (L2.CX P w) P w K mg base N_law_look "_law_look" (defScope s_law_look) (He.ga K "_law_look") cdv A outer s0 H E).nox ((defBody s_law_look).drop 12) tl ∧ ∀ (q : Addr) (v6 : Option V) (e : En) (t1 t2 : Addr) (h : Addr) (H1 : Hp), e ∈ lo.1 → (∀ x ∈ lo.1, lt2 e.2 x.2 = false) → St6 K a kl st H1 pt wh cm lo hi ke → H1 q = some (.tup [.ref t1, .ref t2]) → H1 t1 = some (.lst (rf lo.1)) → H1 e.1 = some (tV e.2) → (∀ H', Same H1 H' → Q (.bl true) H') →
        tl { nx := fun _ H' => Q .non H', rt := Q } [some (V.ref a.r), some (V.ref kl), some (V.ref st), some (V.bl fl), some (V.ref hd), some (V.ref q), v6, some (V.ref e.1), none] H1 := by
      refine ⟨_, (pss_cons (ps_set (i := 8) sc_law_look.nd rfl (Or.inl rfl) (pe_callB call_len_seq rfl T.z_len PySem.boot_len (pa_cons (pe_lc (own := [("_law_one", 6)]) (g := gName 6) (by rfl) sc_law_look.nd (pi_list (pv 1)) (blkOk_by (own := [("_law_one", 6)]) (N := N_law_look) (sc := defScope s_law_look) (by decide +kernel)) (fun _ _ _ _ _ => pg_name (i := 6) sc_law_look.nd rfl (Or.inl rfl)) (fun _ _ _ _ _ => (pts_one (pt_cmpR (r := rLtT K) (op_ltT hu0) (pv 6) (pv 7) (nomark _)))) (fun _ _ _ _ _ => (pv 6))) pa_nil)))
    (pss_one (ps_ret (pe_and (pe_cmpR op_eq (pe_op op_add (pv 8) pe_int) (pe_callB call_len_seq rfl T.z_len PySem.boot_len (pa_cons (pe_ix ix_tup (pv 5) pe_int (fun _ _ => rfl)) pa_nil)) (nomark _)) (pe_one (pe_callF F_law_at_place hr T.g__law_at_place (fun _ => nopass) (pa_cons (pv 8) (pa_cons (pv 1) (pa_cons (pv 2) pa_nil))))))))), fun q v6 e t1 t2 h H1 he top S1 gq g1 hte hQ1 => ?_⟩
      walk_at "rd"
      refine ⟨V.ref kl, rfl, kl, rfl, ⟨_, SqL.of S1.sr.hk⟩, fun D hD => lc_list (xs := rf ke) (LoW ke e D H1) ⟨_, rfl, ?_⟩ (fun i H' _ z => ?_) (fun i x H' hx z => ?_) (fun H' z => ?_)⟩
      · rfl
      · obtain ⟨l, hl, z⟩ := z
        rw [z]
        exact SqL.of (by rw [upd_ne (ne_of_none S1.sr.hk hD)]; exact S1.sr.hk)
      · obtain ⟨l, hel, z⟩ := z
        subst z
        have hi := lt_of_get hx
        rw [List.length_map] at hi
        rw [gE_at hi] at hx
        have hx := (Option.some.inj hx).symm
        subst hx
        have s4 := same_new (o := .lst (rf l)) hD
        have S4 := S1.same s4
        walk_at "rd"
        refine ⟨rfl, _, rfl, _, rfl, _, _, [(gE ke i).2.1, (gE ke i).2.2], [e.2.1, e.2.2], rfl, rfl, SqT.of (S4.sr.kt _ (gE_mem hi)), SqT.of (s4 _ _ hte), ?_⟩
        rw [lex_ah]
        refine ⟨_, rfl, ?_⟩
        have et : ke.take (i + 1) = ke.take i ++ [gE ke i] := by rw [List.take_add_one, gE_some hi]; rfl
        cases cc : lt2 (gE ke i).2 e.2 with
        | true =>
          have le := List.length_filter_le (fun x : En => lt2 x.2 e.2) (ke.take i)
          have le2 := List.length_take_le i ke
          refine (if_pos rfl).mpr ⟨_, rfl, _, upd_same, by rw [List.length_map, hel]; omega, _, rfl, ?_⟩
          rw [upd_upd, hel, et, List.filter_append, List.filter_cons_of_pos (p := fun x : En => lt2 x.2 e.2) (by exact cc), List.filter_nil]
          exact congrArg (fun z => upd H1 D (.lst z)) (rf_snoc _ _)
        | false =>
          refine (if_neg (by decide)).mpr ⟨_, rfl, ?_⟩
          rw [hel, et, List.filter_append, List.filter_cons_of_neg (p := fun x : En => lt2 x.2 e.2) (by rw [cc]; decide), List.filter_nil, List.append_nil]
      · obtain ⟨l, hel, z⟩ := z
        rw [List.length_map, List.take_of_length_le (Nat.le_refl _)] at hel
        have s2 : Same H1 H' := by rw [z]; exact same_new hD
        have g2 : H' D = some (.lst (rf l)) := by rw [z]; exact upd_same
        clear z
        have S2 := S1.same s2
        have ll : l.length + 1 = lo.1.length := by
          have b := S1.sr.ok.bef he top
          have e1 : l.length = (vl ke).countP (fun t => lt2 t e.2) := by
            rw [hel, ← List.countP_eq_length_filter, List.countP_map]
            rfl
          obtain ⟨i, hi'⟩ := mem_iff_get.mp he
          have := lt_of_get hi'
          omega
        have hlen := S1.sr.ok.len
        have htot := S1.sr.ok.tot
        rw [List.length_map] at hlen htot
        refine ⟨D, rfl, _, .inl (SqL.of g2), ixT_mk (SqT.of (s2 _ _ gq)) rfl ⟨t1, rfl, _, .inl (SqL.of (s2 _ _ g1)), (if_pos (by rw [List.length_map, List.length_map]; omega)).mpr ?_⟩⟩
        rw [List.length_map]
        exact ⟨kl, st, l.length, pt, wh, cm, rf ke, rfl, S2.sr.hk, S2.hs, by rw [List.length_map]; omega, by rw [List.length_map]; omega, S1.sr.ok.sh, by rw [List.length_map]; omega, hQ1 H' s2⟩
    obtain ⟨tl, htl, key⟩ : ∃ tl : TS, PSs (cxOf (L2.CX P w) P w K mg base N_law_look "_law_look" (defScope s_law_look) (He.ga K "_law_look") cdv A outer s0 H E).nox ((defBody s_law_look).drop 1) tl ∧ ∀ (H1 : Hp), Same H H1 →
        tl { nx := fun _ H' => Q .non H', rt := Q } [some (V.ref a.r), some (V.ref kl), some (V.ref st), some (V.bl fl), some (V.ref hd), none, none, none, none] H1 := by
      refine ⟨_, (pss_cons (ps_set (i := 5) sc_law_look.nd rfl (Or.inl rfl) (pe_methF0 (pv 0) T.cl_Midrow T.m_Midrow_piles F_Midrow_piles hr (fun _ => nopass)))
    (pss_cons (ps_if (PW.pt (pw_or (pt_not (pt_val (pe_callB call_isi rfl T.z_isinstance (by decide +kernel) (pa_cons (pv 5) (pa_cons (pe_tyv "tuple" T.z_tuple) pa_nil))))) (pw_or1 (pt_cmpR op_ne (pe_callB call_len_seq rfl T.z_len PySem.boot_len (pa_cons (pv 5) pa_nil)) pe_int (nomark _))))) (pss_one (ps_ret pe_bl)) pss_nil)
    (pss_cons (ps_if (PW.pt (pw_or (pt_not (pt_val (pe_callF F_law_form hr T.g__law_form (fun _ => nopass) (pa_cons (pe_ix ix_tup (pv 5) pe_int (fun _ _ => rfl)) (pa_cons pe_bl pa_nil))))) (pw_or1 (pt_not (pt_val (pe_callF F_law_form hr T.g__law_form (fun _ => nopass) (pa_cons (pe_ix ix_tup (pv 5) pe_int (fun _ _ => rfl)) (pa_cons pe_bl pa_nil)))))))) (pss_one (ps_ret pe_bl)) pss_nil)
    (pss_cons (ps_if (PW.pt (pw_or (pt_cmpR (op_neD hu64) (pe_callB cr_sortedPO rfl T.z_sorted (by decide +kernel) (pa_cons (pe_op op_cat (pe_ix ix_tup (pv 5) pe_int (fun _ _ => rfl)) (pe_ix ix_tup (pv 5) pe_int (fun _ _ => rfl))) pa_nil)) (pe_callB cr_sortedPO rfl T.z_sorted (by decide +kernel) (pa_cons (pv 1) pa_nil)) (nomark _)) (pw_or1 (pt_not (pt_val (pe_callF F_law_is hr T.g__law_is (fun _ => nopass) (pa_cons (pe_methF0 (pv 0) T.cl_Midrow T.m_Midrow_many F_Midrow_many hr (fun _ => nopass)) (pa_cons (pe_callB call_len_seq rfl T.z_len PySem.boot_len (pa_cons (pv 1) pa_nil)) pa_nil)))))))) (pss_one (ps_ret pe_bl)) pss_nil)
    (pss_cons (ps_expr (pe_bm PySem.F.plainAttrs_list PySem.F.slot_list_append PySem.F.type_list_append mt_append (pv 4) (pa_cons (pe_tup (pa_cons (pv 5) (pa_cons (pe_tup (pa_cons (pe_callTy call_list_of rfl T.z_list (by decide +kernel) (pa_cons (pe_ix ix_tup (pv 5) pe_int (fun _ _ => rfl)) pa_nil)) (pa_cons (pe_callTy call_list_of rfl T.z_list (by decide +kernel) (pa_cons (pe_ix ix_tup (pv 5) pe_int (fun _ _ => rfl)) pa_nil)) pa_nil))) pa_nil))) pa_nil)))
    (pss_cons (ps_if (pt_cmpR (op_eqD hu64) (pv 1) (pe_lst pa_nil) (nomark _)) (pss_one (ps_ret (pe_callF F_law_empty hr T.g__law_empty (fun _ => nopass) (pa_cons (pv 0) pa_nil)))) pss_nil)
    (pss_cons (ps_set (i := 6) sc_law_look.nd rfl (Or.inl rfl) (pe_ix ix_list (pv 1) (pe_op op_fdiv (pe_callB call_len_seq rfl T.z_len PySem.boot_len (pa_cons (pv 1) pa_nil)) pe_int) (fun _ _ => rfl)))
    (pss_cons (ps_if (PW.pt (pw_or (pt_not (pt_val (pe_callF F_law_is hr T.g__law_is (fun _ => nopass) (pa_cons (pe_methF0 (pv 0) T.cl_Midrow T.m_Midrow_oldest F_Midrow_oldest hr (fun _ => nopass)) (pa_cons (pe_ix ix_tup (pe_ix ix_list (pv 1) pe_int (fun _ _ => rfl)) pe_int (fun _ _ => rfl)) pa_nil))))) (pw_or1 (pt_not (pt_val (pe_callF F_law_is hr T.g__law_is (fun _ => nopass) (pa_cons (pe_methF (pv 0) T.cl_Midrow T.m_Midrow_number_of F_Midrow_number_of hr (fun _ => nopass) (pa_cons (pe_ix ix_tup (pv 6) pe_int (fun _ _ => rfl)) pa_nil)) (pa_cons (pe_ix ix_tup (pv 6) pe_int (fun _ _ => rfl)) pa_nil)))))))) (pss_one (ps_ret pe_bl)) pss_nil)
    (pss_cons (ps_set (i := 7) sc_law_look.nd rfl (Or.inr rfl) (pe_methF0 (pv 0) T.cl_Midrow T.m_Midrow_share F_Midrow_share hr (fun _ => nopass)))
    (pss_cons (ps_if (PW.pt (pw_or (pt_not (pt_val (pe_callF F_law_thing hr T.g__law_thing (fun _ => nopass) (pa_cons (pv 7) pa_nil)))) (pw_or (pt_cmpR (op_eqD hu64) (pe_ix ix_tup (pv 5) pe_int (fun _ _ => rfl)) (pe_lst pa_nil) (nomark _)) (pw_or1 (pt_cmpR (op_neD hu64) (pv 7) (pe_ix ix_list (pe_ix ix_tup (pv 5) pe_int (fun _ _ => rfl)) pe_int (fun _ _ => rfl)) (nomark _)))))) (pss_one (ps_ret pe_bl)) pss_nil)
    (pss_cons (ps_if (PW.pt (pw_and (pt_cmpR (op_neD hu64) (pe_ix ix_tup (pv 5) pe_int (fun _ _ => rfl)) (pe_lst pa_nil) (nomark _)) (pw_and1 (pt_not (pt_cmpR (op_ltT hu0) (pv 7) (pe_ix ix_list (pe_ix ix_tup (pv 5) pe_int (fun _ _ => rfl)) pe_int (fun _ _ => rfl)) (nomark _)))))) (pss_one (ps_ret pe_bl)) pss_nil)
    htl2))))))))))), fun H1 s1 => ?_⟩
      walk_at "rd"
      have S1 := S.same s1
      refine metR.mk S1.sr.at_.ob (nM _ _ _ _ _ (by decide +kernel) (by decide +kernel) (by decide +kernel) (by decide +kernel) (by decide +kernel) (by decide +kernel)) ⟨a, pt, wh, cm, lo, hi, vl ke, rfl, S1.sr.at_, fun q t1 t2 H2 hq ht1 ht2 ne gq g1 g2 s2 => ?_⟩
      have S2 := S1.same s2
      have htot := S.sr.ok.tot
      rw [List.length_map] at htot
      refine isi_tup gq ⟨true, rfl, (if_neg (by decide)).mpr ⟨q, rfl, _, .inr (SqT.of gq), (if_neg (by simp)).mpr ?_⟩⟩
      refine ixT_mk (SqT.of gq) rfl ⟨true, t1, lo.1, rfl, g1, S2.sr.at_.lo.tup, S2.sr.at_.lo.ok.fm, by omega, true, rfl, (if_neg (by decide)).mpr (ixT_mk (SqT.of gq) rfl ⟨false, t2, hi.1, rfl, g2, S2.sr.at_.hi.tup, S2.sr.at_.hi.ok.fm, by omega, true, rfl, (if_neg (by decide)).mpr ?_⟩)⟩
      refine ixT_mk (SqT.of gq) rfl (ixT_mk (SqT.of gq) rfl ⟨t1, t2, _, _, rfl, rfl, g1, g2, ?_, fun r hr => ?_⟩)
      · rw [List.length_map, List.length_map, PySem.sizeLine_eq]
        omega
      have er : rf lo.1 ++ rf hi.1 = rf (lo.1 ++ hi.1) := (List.map_append ..).symm
      rw [er]
      have s3 := same_new (o := .lst (rf (lo.1 ++ hi.1))) hr
      have g3 : (upd H2 r (.lst (rf (lo.1 ++ hi.1)))) r = some (.lst (rf (lo.1 ++ hi.1))) := upd_same
      have S3 := S2.same s3
      have gq3 := s3 _ _ gq
      have g13 := s3 _ _ g1
      have g23 := s3 _ _ g2
      have s23 : Same H (upd H2 r (.lst (rf (lo.1 ++ hi.1)))) := fun b o e => s3 _ _ (s2 _ _ (s1 _ _ e))
      revert g3 S3 gq3 g13 g23 s23
      generalize upd H2 r (.lst (rf (lo.1 ++ hi.1))) = H3
      intro g3 S3 gq3 g13 g23 s03
      have tt : Tup H3 (lo.1 ++ hi.1) := fun z hz => (List.mem_append.mp hz).elim (S3.sr.at_.lo.tup z) (S3.sr.at_.hi.tup z)
      refine sorted_mk (SqL.of g3) tt fun zs p pz tz az hp => ?_
      have s4 : Same H3 (upd H3 p (.lst (rf zs))) := same_new hp
      have g4 : (upd H3 p (.lst (rf zs))) p = some (.lst (rf zs)) := upd_same
      revert s4 g4
      generalize upd H3 p (.lst (rf zs)) = H4
      intro s4 g4
      have S4 := S3.same s4
      refine sorted_mk (SqL.of S4.sr.hk) S4.sr.kt fun ys p' py ty ay hp' => ?_
      have s5 : Same H4 (upd H4 p' (.lst (rf ys))) := same_new hp'
      have g5 : (upd H4 p' (.lst (rf ys))) p' = some (.lst (rf ys)) := upd_same
      revert s5 g5
      generalize upd H4 p' (.lst (rf ys)) = H5
      intro s5 g5
      have S5 := S4.same s5
      refine neD_l (dp_rf (s5 _ _ g4) ((tz.same s4).same s5)) (dp_rf g5 (ty.same s5)) ?_
      have pm := S.sr.ok.pm
      rw [← List.map_append] at pm
      rw [decide_eq_true (asc_eq az ay ((pz.map _).trans (pm.trans (py.map _).symm)))]
      have s35 : Same H3 H5 := fun b o e => s5 _ _ (s4 _ _ e)
      have gq5 := s35 _ _ gq3
      have g15 := s35 _ _ g13
      have g25 := s35 _ _ g23
      have s05 : Same H H5 := fun b o e => s35 _ _ (s03 _ _ e)
      have hd5 := s05 _ _ hhd
      refine ⟨_, rfl, (if_neg (by decide)).mpr (metR.mk S5.sr.at_.ob (nM _ _ _ _ _ (by decide +kernel) (by decide +kernel) (by decide +kernel) (by decide +kernel) (by decide +kernel) (by decide +kernel)) ⟨a, pt, wh, cm, lo, hi, vl ke, rfl, S5.sr.at_, _, .inl (SqL.of S5.sr.hk), _, _, rfl, true, by simp [vl], (if_neg (by decide)).mpr ⟨.inl ⟨rfl, _, SqL.of hd5⟩, ?_⟩⟩)⟩
      refine ixT_mk (SqT.of gq5) rfl ⟨t1, rfl, _, .inl (SqL.of g15), fun c1 hc1 => ?_⟩
      have s6 := same_new (o := .lst (rf lo.1)) hc1
      refine ixT_mk (SqT.of (s6 _ _ gq5)) rfl ⟨t2, rfl, _, .inl (SqL.of (s6 _ _ g25)), fun c2 hc2 q2 hq2 h hh => ?_⟩
      have s7 := same_new (o := .lst (rf hi.1)) hc2
      have s8 := same_new (o := .tup [.ref c1, .ref c2]) hq2
      have s9 := same_new (o := .tup [.ref q, .ref q2]) hh
      have gh9 : (upd (upd (upd (upd H5 c1 (.lst (rf lo.1))) c2 (.lst (rf hi.1))) q2 (.tup [.ref c1, .ref c2])) h (.tup [.ref q, .ref q2])) h = some (.tup [.ref q, .ref q2]) := upd_same
      have gq9 := s9 (o := _) _ (upd_same (H := upd (upd H5 c1 (.lst (rf lo.1))) c2 (.lst (rf hi.1))) (a := q2) (o := .tup [V.ref c1, V.ref c2]))
      have gc2 := s9 _ _ (s8 _ _ (upd_same (H := upd H5 c1 (.lst (rf lo.1))) (a := c2) (o := .lst (rf hi.1))))
      have gc1 := s9 _ _ (s8 _ _ (s7 _ _ (upd_same (H := H5) (a := c1) (o := .lst (rf lo.1)))))
      have s59 : Same H5 (upd (upd (upd (upd H5 c1 (.lst (rf lo.1))) c2 (.lst (rf hi.1))) q2 (.tup [.ref c1, .ref c2])) h (.tup [.ref q, .ref q2])) := fun b o e => s9 _ _ (s8 _ _ (s7 _ _ (s6 _ _ e)))
      have hc25 := none_back s6 hc2
      have eg : hs.map V.ref ++ [V.ref h] = (hs ++ [h]).map V.ref := by simp
      refine ⟨hd, _, _, rfl, rfl, s59 _ _ hd5, by rw [List.length_map, PySem.sizeLine_eq]; omega, ?_⟩
      rw [eg]
      clear hq2 hh hc2
      revert gh9 gq9 gc2 gc1 s59
      generalize (upd (upd (upd (upd H5 c1 (.lst (rf lo.1))) c2 (.lst (rf hi.1))) q2 (.tup [.ref c1, .ref c2])) h (.tup [.ref q, .ref q2])) = H9
      intro gh9 gq9 gc2 gc1 s59
      have s09 : Same H H9 := fun b o e => s59 _ _ (s05 _ _ e)
      have S9 := S.same s09
      have fA : Fr [hd] H9 (upd H9 hd (.lst ((hs ++ [h]).map V.ref))) := fr_upd (by simp)
      have nA : NoTup H9 [hd] := fun b hb xs => by rw [List.mem_singleton.mp hb, s59 _ _ hd5]; simp
      have SA := S9.fr fA (by simp only [List.mem_singleton]; exact fun b hb e => nhd (e ▸ hb)) nA
      have gA : (upd H9 hd (.lst ((hs ++ [h]).map V.ref))) hd = some (.lst ((hs ++ [h]).map V.ref)) := upd_same
      revert fA SA gA
      generalize upd H9 hd (.lst ((hs ++ [h]).map V.ref)) = HA
      intro fA SA gA
      have apart : ∀ {z : Addr} {G : Hp}, Same H G → G z = none → z ∉ P7 a kl st hd := fun {z G} sg hz m => by
        rcases List.mem_cons.mp m with y | y
        · rw [y, sg _ _ hhd] at hz; cases hz
        · exact (S.same sg).alive hz y
      have n1 := apart s1 ht1
      have n2 := apart s1 ht2
      have n3 := apart s05 hc1
      have n4 := apart s05 hc25
      have ne1 : ∀ {z : Addr}, z ∉ P7 a kl st hd → z ∉ [hd] := fun n m => n (by rw [List.mem_singleton.mp m]; simp)
      have gqA := tup_fr fA nA (s59 _ _ gq5)
      have g1A := fA _ _ (s59 _ _ g15) (ne1 n1)
      have g2A := fA _ _ (s59 _ _ g25) (ne1 n2)
      have HPA : HP (P7 a kl st hd) HA h := ⟨q, q2, t1, t2, c1, c2, lo.1, hi.1, tup_fr fA nA gh9, gqA, tup_fr fA nA gq9, g1A, g2A, fA _ _ gc1 (ne1 n3), fA _ _ gc2 (ne1 n4), SA.sr.at_.lo.tup, SA.sr.at_.hi.tup, n1, n2, n3, n4⟩
      have fin : ∀ H', Same HA H' → Q (.bl true) H' := fun H' s => hQ h H' (SA.same s) (s _ _ gA) (HPA.same s) ((Fr.of_same s09).trans (fA.trans (Fr.of_same s)))
      intro p9 hp9
      have sB := same_new (o := .lst []) hp9
      have SB := SA.same sB
      refine eqD_l (l2 := []) (dp_rf SB.sr.hk SB.sr.kt) (dp_nil (SqL.of upd_same)) ⟨_, rfl, ?_⟩
      rw [nil_dec]
      revert sB SB
      generalize upd HA p9 (.lst []) = HB
      intro sB SB
      by_cases ck : ke = []
      · rw [decide_eq_true ck]
        subst ck
        exact iteT ⟨a, pt, wh, cm, lo, hi, rfl, SB.sr.at_, SB.sr.ok, fun H2 s2 => fin H2 fun b o e => s2 _ _ (sB _ _ e)⟩
      rw [decide_eq_false ck]
      have hp0 := List.length_pos_iff.mpr ck
      have hm : ke.length / 2 < ke.length := by omega
      have hke : vl ke ≠ [] := fun z => ck (List.map_eq_nil_iff.mp z)
      refine iteF ⟨_, .inl (SqL.of SB.sr.hk), ixL_mk (SqL.of SB.sr.hk) (at_of (j := ke.length / 2) (by rw [List.length_map]; omega) (gE_at hm)) ?_⟩
      have old : ∀ t, (vl ke)[0]? = some t → t = (gE ke 0).2 := fun t ht => by
        rw [vl_get hp0] at ht
        exact (Option.some.inj ht).symm
      refine metR.mk SB.sr.at_.ob (nM _ _ _ _ _ (by decide +kernel) (by decide +kernel) (by decide +kernel) (by decide +kernel) (by decide +kernel) (by decide +kernel)) ⟨a, pt, wh, cm, lo, hi, vl ke, rfl, SB.sr.at_, fun z => absurd z hke, fun t ht => ?_⟩
      rw [old t ht]
      refine ixL_mk (SqL.of SB.sr.hk) (at_of (j := 0) rfl (gE_at hp0)) (ixT1 (n := (gE ke 0).2.1) (c := (gE ke 0).2.2) (SB.sr.kt _ (gE_mem hp0)) ⟨_, _, rfl, true, by rw [decide_eq_true rfl], (if_neg (by decide)).mpr ?_⟩)
      refine metR.mk SB.sr.at_.ob (nM _ _ _ _ _ (by decide +kernel) (by decide +kernel) (by decide +kernel) (by decide +kernel) (by decide +kernel) (by decide +kernel)) (ixT1 (n := (gE ke (ke.length / 2)).2.1) (c := (gE ke (ke.length / 2)).2.2) (SB.sr.kt _ (gE_mem hm)) ⟨a, pt, wh, cm, lo, hi, vl ke, _, rfl, SB.sr.at_, S.sr.ok.nd, fun h => absurd (cm_gE hm) h, fun t ht q => ?_⟩)
      rw [ks_uniq S.sr.ok.nd ht (vl_gE hm) q]
      refine ixT0 (n := (gE ke (ke.length / 2)).2.1) (c := (gE ke (ke.length / 2)).2.2) (SB.sr.kt _ (gE_mem hm)) ⟨_, _, rfl, true, by rw [decide_eq_true rfl], (if_neg (by decide)).mpr ?_⟩
      have hlo : lo.1 ≠ [] := fun z => by
        have := S.sr.ok.len
        obtain ⟨p1, _⟩ := place_spec (m := ((vl ke).length : Int)) (by rw [List.length_map]; omega) S.sr.ok.sh
        rw [z] at this
        simp only [List.length_nil] at this
        omega
      refine metR.mk SB.sr.at_.ob (nM _ _ _ _ _ (by decide +kernel) (by decide +kernel) (by decide +kernel) (by decide +kernel) (by decide +kernel) (by decide +kernel)) ⟨a, pt, wh, cm, lo, hi, vl ke, rfl, SB.sr.at_, fun z => absurd z hlo, fun e he top HC sC => ?_⟩
      have SC := SB.same sC
      have hem : e ∈ lo.1 := mem_iff_get.mpr ⟨0, he⟩
      have hte := SC.sr.at_.lo.tup e hem
      have gqC := sC _ _ (sB _ _ gqA)
      have g1C := sC _ _ (sB _ _ g1A)
      have g2C := sC _ _ (sB _ _ g2A)
      refine ⟨e, rfl, hte, true, rfl, (if_neg (by decide)).mpr (ixT_mk (SqT.of gqC) rfl fun p hp => ?_)⟩
      have sD := same_new (o := .lst []) hp
      have SD := SC.same sD
      refine eqD_l (l2 := []) (dp_rf (sD _ _ g1C) SD.sr.at_.lo.tup) (dp_nil (SqL.of upd_same)) ⟨_, rfl, ?_⟩
      rw [nil_dec, decide_eq_false hlo]
      revert sD SD
      generalize upd HC p (.lst []) = HD
      intro sD SD
      have gqD := sD _ _ gqC
      have g1D := sD _ _ g1C
      have g2D := sD _ _ g2C
      have hteD := sD _ _ hte
      refine iteF (ixT_mk (SqT.of gqD) rfl (ixL_mk (SqL.of g1D) (at_of (j := 0) rfl (show (rf lo.1)[0]? = some (V.ref e.1) by rw [List.getElem?_map, he]; rfl)) ?_))
      refine neD_t (dp_t hteD) (dp_t hteD) ⟨_, rfl, ?_⟩
      rw [decide_eq_true rfl]
      refine (if_neg (by decide)).mpr (ixT_mk (SqT.of gqD) rfl fun p2 hp2 => ?_)
      have sE := same_new (o := .lst []) hp2
      have SE := SD.same sE
      refine neD_l (l2 := []) (dp_rf (sE _ _ g2D) SE.sr.at_.hi.tup) (dp_nil (SqL.of upd_same)) ⟨_, rfl, ?_⟩
      rw [nil_dec]
      revert sE SE
      generalize upd HD p2 (.lst []) = HE
      intro sE SE
      have end_ := key2 _ (some (V.ref (gE ke (ke.length / 2)).1)) e t1 t2 h HE hem top SE (sE _ _ gqD) (sE _ _ g1D) (sE _ _ hteD) fun H' s' => fin H' fun b o e => s' _ _ (sE _ _ (sD _ _ (sC _ _ (sB _ _ e))))
      by_cases ch : hi.1 = []
      · rw [decide_eq_true ch]
        exact (if_neg (by decide)).mpr end_
      · rw [decide_eq_false ch]
        have h0 := List.length_pos_iff.mpr ch
        have m0 := gE_mem h0
        refine (if_pos rfl).mpr (ixT_mk (SqT.of (sE _ _ gqD)) rfl (ixL_mk (SqL.of (sE _ _ g2D)) (at_of (j := 0) rfl (gE_at h0)) ⟨_, _, [e.2.1, e.2.2], [(gE hi.1 0).2.1, (gE hi.1 0).2.2], rfl, rfl, SqT.of (sE _ _ hteD), SqT.of (SE.sr.at_.hi.tup _ m0), ?_⟩))
        rw [lex_ah, S.sr.ok.ord e hem _ m0]
        exact ⟨_, rfl, (if_neg (by decide)).mpr end_⟩
    refine ⟨_, (pss_cons (ps_if (PW.pt (pw_and (pt_val (pv 3)) (pw_and (pt_cmpR (op_neD hu64) (pv 1) (pe_lst pa_nil) (nomark _)) (pw_and1 (pt_cmpR (op_notInD hu65) (pe_methF0 (pv 0) T.cl_Midrow T.m_Midrow_share F_Midrow_share hr (fun _ => nopass)) (pv 1) rfl))))) (pss_one (ps_ret pe_bl)) pss_nil)
    htl), ?_⟩
    rw [show start N_law_look [V.ref a.r, V.ref kl, V.ref st, V.bl fl, V.ref hd] = [some (V.ref a.r), some (V.ref kl), some (V.ref st), some (V.bl fl), some (V.ref hd), none, none, none, none] from rfl]
    walk_at "rd"
    have inC : ∀ {H2 : Hp} {q : VK} {e : En}, Same H H2 → e ∈ lo.1 → q (.bl false) H2 → rNotInD K (V.ref e.1) (V.ref kl) H2 q := fun {H2 q e} s2 he hq =>
      notIn_l (dp_t ((S.same s2).sr.at_.lo.tup e he)) (dp_rf (S.same s2).sr.hk (S.same s2).sr.kt) (S.sr.ok.mem.mpr (.inl ⟨e, he, rfl⟩)) hq
    refine ite2 (fun _ p hp => ?_) (fun _ => key H fun _ _ e => e)
    have s1 := same_new (o := .lst []) hp
    have S1 := S.same s1
    refine neD_l (l2 := []) (dp_rf S1.sr.hk S1.sr.kt) (dp_nil (SqL.of upd_same)) ⟨_, rfl, ?_⟩
    rw [nil_dec]
    revert s1 S1
    generalize upd H p (.lst []) = H1
    intro s1 S1
    by_cases ck : ke = []
    · rw [decide_eq_true ck]
      exact (if_neg (by decide)).mpr (key H1 s1)
    rw [decide_eq_false ck]
    have hp0 := List.length_pos_iff.mpr ck
    have hlo : lo.1 ≠ [] := fun z => by
      have := S.sr.ok.len
      obtain ⟨p1, _⟩ := place_spec (m := ((vl ke).length : Int)) (by rw [List.length_map]; omega) S.sr.ok.sh
      rw [z] at this
      simp only [List.length_nil] at this
      omega
    refine (if_pos rfl).mpr (metR.mk S1.sr.at_.ob (nM _ _ _ _ _ (by decide +kernel) (by decide +kernel) (by decide +kernel) (by decide +kernel) (by decide +kernel) (by decide +kernel)) ⟨a, pt, wh, cm, lo, hi, vl ke, rfl, S1.sr.at_, fun z => absurd z hlo, fun e he top H2 s2 => ?_⟩)
    have s02 : Same H H2 := fun b o e => s2 _ _ (s1 _ _ e)
    exact inC s02 (mem_iff_get.mpr ⟨0, he⟩) ⟨_, rfl, (if_neg (by decide)).mpr (key H2 s02)⟩
end
end Mp

namespace Mp
open PySem PySem.Spec PyProof.Rows L2
local macro_rules | `(tactic| walk_at "rd") => `(tactic| try simp only [tSeq, tAsg, gName, tVar, tC, tOp, rI0, rI, tTest, tB, tIfS, tNext, tBreak, tCont, tRet, tRetN, tDrop, tCons, tNil, tCallS, tCB, tAnd, tOr, tNot, tAndV, tOrV, tNotV, tUn, rU, tIf, tChain, gCons, gNil, gSub, tFld_r, sFld_r, sFldAug_r, tDGet_r, tDIn_r, tDNotIn_r, sDPut_r, tDPop1_r, tMethF_r, tMakeF, tBits, tSl, tPart, tDNewK, cxOf_K, tBM, tBM0, tTup, tLst, List.length_cons, List.length_nil, Nat.reduceAdd, Nat.zero_add, PySem.sizeLine_eq, Nat.reduceLeDiff,
  List.getElem?_cons_zero, List.getElem?_cons_succ, Option.some.injEq, exists_eq_left', List.set_cons_zero, List.set_cons_succ, exists_eq_left, V.int.injEq, V.bl.injEq, V.ref.injEq, List.cons.injEq, and_true, true_and, and_assoc, exists_and_left, decide_eq_true_eq,
  rEq_int, rNe_int, cdiv_iff, cpow10, Int.reduceLT, Int.reduceLE, Int.reduceToNat, Int.reducePow, Int.reduceNeg, Int.reduceSub, Int.reduceAdd, Int.reduceMul, Nat.reducePow, Nat.reduceLT, Bool.not_eq_true', Bool.false_eq_true, if_true, if_false, not_true_eq_false, not_false_eq_true, ite_not, Bool.not_true, Bool.not_false, reduceCtorEq, ipI, tAug, isi_int_int, isi_int_bool, isi_bool_bool, Bool.true_eq_false, reduceIte])
local macro_rules | `(tactic| walk_at "fo") => `(tactic| try simp only [tFor_enum, tFor_zip, tFor_list, tFor_r1])
local macro_rules | `(tactic| walk_at "mk") => `(tactic| try simp only [tMake, tCallSD, List.nil_append, List.cons_append, List.append_nil])

def spLaw (K : PySem.W.Frag) : Sp := fun vs H Q _ => ∃ (a : Addr) (ns : List Int), vs = [.ref a] ∧ SqL K H a (ns.map V.int) ∧ ns.length ≤ 63 ∧ ∀ H', Q (.bl true) H'
def pD (l m : List T) : PyData := .tuple [lD l, lD m]
theorem shaped_pD (l m : List T) : SeqAt.shaped (pD l m) = true := by
  unfold pD
  have e : ∀ l : List T, PyData.canLay0 (lD l) = true ∧ PyData.depth (lD l) ≤ 5 := fun l => by
    refine ⟨?_, ?_⟩
    · unfold lD
      simp only [PyData.canLay0]
      exact lay_lD l
    · have := depthAll_lD l
      unfold lD
      simp only [PyData.depth]
      omega
  obtain ⟨l1, l2⟩ := e l
  obtain ⟨m1, m2⟩ := e m
  unfold SeqAt.shaped
  rw [Bool.and_eq_true, decide_eq_true_iff]
  refine ⟨?_, ?_⟩
  · simp only [PyData.canLay0, PyData.canLayAll0]
    rw [l1, m1]
    rfl
  · simp only [PyData.depth, PyData.depthAll]
    omega
theorem neD_pair {K : PySem.W.Frag} {H : Hp} {p q a1 a2 b1 b2 : Addr} {es fs : List En} {Q : VK} (hp : H p = some (.tup [.ref a1, .ref a2])) (hq : H q = some (.tup [.ref b1, .ref b2])) (h1 : H a1 = some (.lst (rf es))) (h2 : H a2 = some (.lst (rf fs))) (g1 : H b1 = some (.lst (rf es))) (g2 : H b2 = some (.lst (rf fs)))
    (te : Tup H es) (tf : Tup H fs) (k : Q (.bl false) H) : rNeD K (.ref p) (.ref q) H Q := by
  refine ⟨pD (vl es) (vl fs), pD (vl es) (vl fs), .tup (SqT.of hp) (.cons (dp_rf h1 te) (.cons (dp_rf h2 tf) .nil)), .tup (SqT.of hq) (.cons (dp_rf g1 te) (.cons (dp_rf g2 tf) .nil)), shaped_pD _ _, shaped_pD _ _, ?_⟩
  have e : PyData.eqv (pD (vl es) (vl fs)) (pD (vl es) (vl fs)) = true := by
    unfold pD
    rw [PyData.eqv, PyData.eqvAll, PyData.eqvAll, PyData.eqvAll, eqv_lD, eqv_lD]
    simp
  rw [e]
  exact k
def L1W (K : PySem.W.Frag) (sa : Addr) (whv ptv mv : Int) (bd md : Addr) (pt wh : Int) (a : RA) (kl st hd nl : Addr) (xs : List Int) (H : Hp) (i : Nat) (σ : L2.St) (H' : Hp) : Prop :=
  ∃ (cm : Int) (lo hi : Sx) (ke : List En) (v : Option V), σ = [some (V.ref sa), some (V.int whv), some (V.int ptv), some (V.ref bd), some (V.ref md), some (V.ref a.r), some (V.ref kl), some (V.ref st), some (V.ref hd), some (V.int mv), v, none, none, none] ∧ St6 K a kl st H' pt wh cm lo hi ke ∧ ke.length = i ∧ Same H H' ∧ H' hd = some (.lst []) ∧ H' nl = some (.lst (xs.map V.int))
def L2W (K : PySem.W.Frag) (sa : Addr) (whv ptv mv : Int) (bd md : Addr) (a : RA) (kl st hd sl : Addr) (cs : List Int) (m : Nat) (i : Nat) (σ : L2.St) (H' : Hp) : Prop :=
  ∃ (pt wh cm : Int) (lo hi : Sx) (ke : List En) (hs : List Addr) (v10 v11 v12 : Option V), σ = [some (V.ref sa), some (V.int whv), some (V.int ptv), some (V.ref bd), some (V.ref md), some (V.ref a.r), some (V.ref kl), some (V.ref st), some (V.ref hd), some (V.int mv), v10, v11, v12, none] ∧ St6 K a kl st H' pt wh cm lo hi ke ∧ ke.length ≤ m + i ∧ H' hd = some (.lst (hs.map V.ref)) ∧ hs.length ≤ i + 1 ∧ (∀ h ∈ hs, HP (P7 a kl st hd) H' h) ∧ H' sl = some (.lst (cs.map V.int))
section
variable {P : Program} {w : World} {K : PySem.W.Frag} {mg : Str → Option Value} {base : Heap}
theorem ok_law (T : Tx K mg) (F_law_at0 : ∀ a ns, Fn P w K mg base 1 (He.ga K "_law_at") P_law_at (spAt K a ns)) (F_law_no_row : Fn P w K mg base 5 (He.ga K "_law_no_row") P_law_no_row spNoRow6) (F_law_made : Fn P w K mg base 5 (He.ga K "_law_made") P_law_made (spMade6 K)) (F_law_numbers : Fn P w K mg base 1 (He.ga K "_law_numbers") P_law_numbers spNumbers) (F_law_put : Fn P w K mg base 6 (He.ga K "_law_put") P_law_put (spPut6 K)) (F_law_look : Fn P w K mg base 6 (He.ga K "_law_look") P_law_look (spLook6 K)) (F_law_deed : Fn P w K mg base 9 (He.ga K "_law_deed") P_law_deed (spDeed6 K))
    {fd : FuncData} (F : FnP K "law" "law" s_law (He.ga K "law") fd) : FnOk P w K mg base CX0 10 (He.ga K "law") fd P_law (spLaw K) := by
  refine fn_ok0 F sc_law (fun vs H Q E h => ?_) (fun cdv A outer s0 H vs Q E hr h => ?_)
  · obtain ⟨a, ns, rfl, _⟩ := h
    rfl
  · obtain ⟨sa, ns, rfl, hS, hlen, hQ⟩ := h
    have hu64 := hr.units
    have F_law_at := F_law_at0 sa ns
    have atk : ∀ (k : Int) {H1 : Hp} {q : V → Hp → Prop} {E : XK}, 0 ≤ k → Same H H1 → q (.int (ns.getD k.toNat 0)) H1 → spAt K sa ns [V.ref sa, V.int k] H1 q E := fun k _ _ _ hk s1 q => ⟨k, rfl, hk, sql_same s1 hS, q⟩
    obtain ⟨cs, ecs, hcs⟩ := cut_ints ns (some 4) (some 404)
    obtain ⟨tl, htl, key⟩ : ∃ tl : TS, PSs (cxOf CX0 P w K mg base N_law "law" (defScope s_law) (He.ga K "law") cdv A outer s0 H E).nox ((defBody s_law).drop 12) tl ∧ ∀ (whv ptv : Int) (mv : Nat) (bd md : Addr) (pt wh : Int) (a : RA) (kl st hd : Addr) (H1 : Hp), St6 K a kl st H1 pt wh 0 ([], []) ([], []) [] → H1 hd = some (.lst []) → hd ∉ P6 a kl st → (∀ b ∈ P7 a kl st hd, H b = none) → mv ≤ 60 → Same H H1 →
        tl { nx := fun _ H' => Q .non H', rt := Q } [some (V.ref sa), some (V.int whv), some (V.int ptv), some (V.ref bd), some (V.ref md), some (V.ref a.r), some (V.ref kl), some (V.ref st), some (V.ref hd), some (V.int (mv : Int)), none, none, none, none] H1 := by
      refine ⟨_, (pss_cons (ps_for PassesOwn.never rfl (pi_list (pe_callF F_law_numbers hr T.g__law_numbers (fun _ => nopass) (pa_cons (pe_callF F_law_at hr T.g__law_at (fun _ => nopass) (pa_cons (pv 0) (pa_cons pe_int pa_nil))) (pa_cons (pv 9) pa_nil)))) (pg_name (i := 10) sc_law.nd rfl (Or.inl rfl))
    (pss_one (ps_if (pt_not (pt_val (pe_callF F_law_put hr T.g__law_put (fun _ => nopass) (pa_cons (pv 5) (pa_cons (pv 6) (pa_cons (pv 7) (pa_cons (pv 10) pa_nil))))))) (pss_one (ps_ret pe_bl)) pss_nil)))
    (pss_cons (ps_if (pt_not (pt_val (pe_callF F_law_look hr T.g__law_look (fun _ => nopass) (pa_cons (pv 5) (pa_cons (pv 6) (pa_cons (pv 7) (pa_cons pe_bl (pa_cons (pv 8) pa_nil)))))))) (pss_one (ps_ret pe_bl)) pss_nil)
    (pss_cons (ps_for PassesOwn.never rfl (pi_enum rfl T.z_enumerate (pa_cons (pe_slice sl_list (pv 0) (po_some pe_int) (po_some pe_int)) pa_nil)) (pg_tup rfl (pgs_cons (pg_name (i := 11) sc_law.nd rfl (Or.inl rfl)) (pgs_cons (pg_name (i := 12) sc_law.nd rfl (Or.inl rfl)) pgs_nil)))
    (pss_cons (ps_if (pt_not (pt_val (pe_callF F_law_deed hr T.g__law_deed (fun _ => nopass) (pa_cons (pv 5) (pa_cons (pv 6) (pa_cons (pv 7) (pa_cons (pv 12) pa_nil))))))) (pss_one (ps_ret pe_bl)) pss_nil)
    (pss_one (ps_if (pt_not (pt_val (pe_callF F_law_look hr T.g__law_look (fun _ => nopass) (pa_cons (pv 5) (pa_cons (pv 6) (pa_cons (pv 7) (pa_cons (pe_cmpR op_eq (pe_op op_mod (pe_op op_add (pe_op op_fdiv (pv 12) pe_int) (pv 11)) pe_int) pe_int (nomark _)) (pa_cons (pv 8) pa_nil)))))))) (pss_one (ps_ret pe_bl)) pss_nil))))
    (pss_one (ps_ret (pe_cmpR (op_eqD hu64) (pe_lc (own := [("_law_pair", 13)]) (g := gName 13) (by rfl) sc_law.nd (pi_list (pv 8)) (blkOk_by (own := [("_law_pair", 13)]) (N := N_law) (sc := defScope s_law) (by decide +kernel)) (fun _ _ _ _ _ => pg_name (i := 13) sc_law.nd rfl (Or.inl rfl)) (fun _ _ _ _ _ => (pts_one (pt_cmpR (r := rNeD K) (op_neD hu64) (pe_ix (r := rIxT K) ix_tup (pv 13) pe_int (fun _ _ => rfl)) (pe_ix (r := rIxT K) ix_tup (pv 13) pe_int (fun _ _ => rfl)) (nomark _)))) (fun _ _ _ _ _ => (pv 13))) (pe_lst pa_nil) (nomark _))))))), fun whv ptv mv bd md pt wh a kl st hd H1 S hhd nhd fr hmv s1 => ?_⟩
      walk_at "rd"
      walk_at "fo"
      walk_at "rd"
      refine atk 3 (by decide) s1 ⟨_, mv, rfl, by omega, fun xs nl H2 hx hnl gnl s2 => ?_⟩
      have S2 := S.same s2
      have s12 : Same H H2 := fun b o e => s2 _ _ (s1 _ _ e)
      have nnl : nl ∉ P6 a kl st := S.alive hnl
      have nnh : nl ≠ hd := fun z => by rw [z, hhd] at hnl; cases hnl
      have fr6 : ∀ b ∈ P6 a kl st, H b = none := fun b hb => fr b (List.mem_cons_of_mem _ hb)
      refine liR.mk (xs := xs.map V.int) (SqL.of gnl) (L1W K sa whv ptv mv bd md pt wh a kl st hd nl xs H) ⟨_, _, _, _, none, rfl, S2, rfl, s12, s2 _ _ hhd, gnl⟩ ?_ ?_ ?_
      · rintro i σ H4 hi ⟨cm, lo, hi2, ke, v, rfl, S4, h1, s4, h4, g4⟩
        exact SqL.of g4
      · rintro i y σ H4 hy ⟨cm, lo, hi2, ke, v, rfl, S4, h1, s4, h4, g4⟩
        have hi := lt_of_get hy
        rw [List.length_map] at hi
        obtain ⟨c, hc⟩ : ∃ c, y = V.int c := by
          rw [List.getElem?_map] at hy
          cases q : xs[i]? with
          | none => rw [q] at hy; cases hy
          | some c => rw [q] at hy; exact ⟨c, (Option.some.inj hy).symm⟩
        subst hc
        walk_at "rd"
        refine ⟨a, kl, st, pt, wh, cm, lo, hi2, ke, c, rfl, S4, by omega, fun lo' hi' p H5 S5 f5 => ⟨true, rfl, (if_neg (by decide)).mpr ?_⟩⟩
        exact ⟨_, _, _, _, _, rfl, S5, by simp [h1], same_fr fr6 s4 f5, f5 _ _ h4 nhd, f5 _ _ g4 nnl⟩
      · rintro σ H4 ⟨cm, lo, hi2, ke, v, rfl, S4, h1, s4, h4, g4⟩
        rw [List.length_map, hx] at h1
        walk_at "rd"
        walk_at "fo"
        walk_at "rd"
        have hh : hd ∉ P6 a kl st := nhd
        refine ⟨a, kl, st, hd, pt, wh, cm, lo, hi2, ke, false, [], rfl, S4, by omega, h4, nhd, by decide, fun h H5 S5 g5 X5 f5 => ⟨true, rfl, (if_neg (by decide)).mpr ?_⟩⟩
        have s5 : Same H H5 := same_fr (P := [hd]) (fun b hb => by rw [List.mem_singleton.mp hb]; exact fr hd (by simp)) s4 f5
        refine ⟨sa, _, rfl, sql_same s5 hS, fun sl hsl => ?_⟩
        rw [ecs]
        have s6 := same_new (o := .lst (cs.map V.int)) hsl
        have nsl : sl ∉ P6 a kl st := S5.alive hsl
        have nsh : sl ≠ hd := fun z => by rw [z, g5] at hsl; cases hsl
        refine enR.mk (xs := cs.map V.int) (SqL.of upd_same) (L2W K sa whv ptv mv bd md a kl st hd sl cs ke.length) ⟨_, _, _, _, _, _, _, v, none, none, rfl, S5.same s6, by omega, s6 _ _ g5, by simp, fun z hz => ?_, upd_same⟩ ?_ ?_ ?_
        · have ez : z = h := by simpa using hz
          rw [ez]
          exact X5.same s6
        · rintro i σ H4 hi ⟨pt, wh, cm, lo, hi2, ke, hs, v10, v11, v12, rfl, S4, h1, h4, hl4, X4, g4⟩
          exact SqL.of g4
        · clear S5 g5 X5 f5 s6 S4
          rintro i y σ H4 Tt hi hy ⟨pt, wh, cm, lo, hi2, ke, hs, v10, v11, v12, rfl, S4, h1', h4, hl4, X4, g4⟩ hT
          rw [List.length_map] at hi
          obtain ⟨c, hc⟩ : ∃ c, y = V.int c := by
            rw [List.getElem?_map] at hy
            cases q : cs[i]? with
            | none => rw [q] at hy; cases hy
            | some c => rw [q] at hy; exact ⟨c, (Option.some.inj hy).symm⟩
          subst hc
          have s5 := same_new (o := .tup [V.int (i : Int), V.int c]) hT
          refine gTup2 upd_same rfl ?_
          have S5 := S4.same s5
          have h5 := s5 _ _ h4
          have g5 := s5 _ _ g4
          have X5 : ∀ z ∈ hs, HP (P7 a kl st hd) _ z := fun z hz => (X4 z hz).same s5
          revert S5 h5 g5 X5
          generalize upd H4 Tt (.tup [V.int (i : Int), V.int c]) = H5
          intro S5 h5 g5 X5
          walk_at "rd"
          refine ⟨a, kl, st, pt, wh, cm, lo, hi2, ke, c, rfl, S5, by omega, fun pt' wh' cm' lo' hi' ke' H6 S6 l6 f6 => ⟨true, rfl, (if_neg (by decide)).mpr ?_⟩⟩
          have nt7 : ∀ {G : Hp} {pt wh cm : Int} {lo hi : Sx} {ke : List En} {hs : List Addr}, St6 K a kl st G pt wh cm lo hi ke → G hd = some (.lst (hs.map V.ref)) → NoTup G (P7 a kl st hd) := fun SG hG b hb xs => by
            rcases List.mem_cons.mp hb with z | hb
            · rw [z, hG]; simp
            · exact SG.notup b hb xs
          have h6 := f6 _ _ h5 nhd
          have g6 := f6 _ _ g5 nsl
          have f6' : Fr (P7 a kl st hd) H5 H6 := f6.mono fun b hb => List.mem_cons_of_mem _ hb
          have X6 : ∀ z ∈ hs, HP (P7 a kl st hd) H6 z := fun z hz => (X5 z hz).fr f6' (nt7 S5 h5)
          refine ⟨a, kl, st, hd, pt', wh', cm', lo', hi', ke', _, hs, rfl, S6, by omega, h6, nhd, by omega, fun h H7 S7 h7 X7 f7 => ⟨true, rfl, (if_neg (by decide)).mpr ?_⟩⟩
          have f7' : Fr (P7 a kl st hd) H6 H7 := f7.mono (by simp)
          refine ⟨_, _, _, _, _, _, _, _, _, _, rfl, S7, by omega, h7, by simp; omega, fun z hz => ?_, f7 _ _ g6 (by simpa using nsh)⟩
          rcases List.mem_append.mp hz with m | m
          · exact (X6 z m).fr f7' (nt7 S6 h6)
          · rw [List.mem_singleton.mp m]
            exact X7
        · rintro σ H4 ⟨pt, wh, cm, lo, hi2, ke, hs, v10, v11, v12, rfl, S4, h1', h4, hl4, X4, g4⟩
          walk_at "rd"
          refine ⟨V.ref hd, rfl, hd, rfl, ⟨_, SqL.of h4⟩, fun D hD => lc_list (xs := hs.map V.ref) (fun i H' => H' = upd H4 D (.lst [])) rfl (fun i H' _ e => ?_) (fun i x H' hx e => ?_) (fun H' e => ?_)⟩
          · rw [e]
            exact SqL.of (by rw [upd_ne (ne_of_none h4 hD)]; exact h4)
          · subst e
            obtain ⟨z, hz, hzm⟩ : ∃ z, x = V.ref z ∧ z ∈ hs := by
              rw [List.getElem?_map] at hx
              cases q : hs[i]? with
              | none => rw [q] at hx; cases hx
              | some c => rw [q] at hx; exact ⟨c, (Option.some.inj hx).symm, List.mem_of_getElem? q⟩
            subst hz
            have X := (X4 z hzm).same (same_new (o := .lst []) hD)
            obtain ⟨q, q2, t1, t2, c1, c2, es, fs, x1, x2, x3, x4, x5, x6, x7, te, tf, _⟩ := X.ex
            walk_at "rd"
            refine ⟨rfl, _, rfl, ixT_mk (SqT.of x1) rfl ⟨_, rfl, ixT_mk (SqT.of x1) rfl (neD_pair x2 x3 x4 x5 x6 x7 te tf ⟨_, rfl, (if_neg (by decide)).mpr rfl⟩)⟩⟩
          · subst e
            intro p2 hp2
            have s9 := same_new (o := .lst []) hp2
            exact eqD_l (l1 := []) (l2 := []) (dp_nil (SqL.of (s9 _ _ upd_same))) (dp_nil (SqL.of upd_same)) (hQ _)
    obtain ⟨tl2, htl2, key2⟩ : ∃ tl : TS, PSs (cxOf CX0 P w K mg base N_law "law" (defScope s_law) (He.ga K "law") cdv A outer s0 H E).nox ((defBody s_law).drop 2) tl ∧ ∀ (whv : Int), 1 ≤ whv → whv ≤ 10 ^ 59 →
        tl { nx := fun _ H' => Q .non H', rt := Q } [some (V.ref sa), some (V.int whv), none, none, none, none, none, none, none, none, none, none, none, none] H := by
      refine ⟨_, (pss_cons (ps_set (i := 2) sc_law.nd rfl (Or.inl rfl) (pe_op op_mod (pe_callF F_law_at hr T.g__law_at (fun _ => nopass) (pa_cons (pv 0) (pa_cons pe_int pa_nil))) (pe_op op_add (pv 1) pe_int)))
    (pss_cons (ps_set (i := 3) sc_law.nd rfl (Or.inl rfl) (pe_ix ix_list (pe_lst (pa_cons (pe_tup (pa_cons (pe_op op_sub (pe_un un_neg pe_int) (pv 2)) (pa_cons (pv 1) pa_nil))) (pa_cons (pe_tup (pa_cons (pe_op op_add (pe_op op_add (pv 1) pe_int) (pv 2)) (pa_cons (pv 1) pa_nil))) (pa_cons (pe_tup (pa_cons (pv 2) (pa_cons (pe_un un_neg (pv 2)) pa_nil))) (pa_cons (pe_tup (pa_cons pe_int (pa_cons pe_int pa_nil))) pa_nil))))) (pe_op op_mod (pe_op op_fdiv (pe_callF F_law_at hr T.g__law_at (fun _ => nopass) (pa_cons (pv 0) (pa_cons pe_int pa_nil))) pe_int) pe_int) (fun _ _ => rfl)))
    (pss_cons (ps_if (pt_not (pt_val (pe_callF F_law_no_row hr T.g__law_no_row (fun _ => nopass) (pa_cons (pe_ix ix_tup (pv 3) pe_int (fun _ _ => rfl)) (pa_cons (pe_ix ix_tup (pv 3) pe_int (fun _ _ => rfl)) pa_nil))))) (pss_one (ps_ret pe_bl)) pss_nil)
    (pss_cons (ps_set (i := 4) sc_law.nd rfl (Or.inl rfl) (pe_callF F_law_made hr T.g__law_made (fun _ => nopass) (pa_cons (pe_op op_fdiv (pe_callF F_law_at hr T.g__law_at (fun _ => nopass) (pa_cons (pv 0) (pa_cons pe_int pa_nil))) pe_int) (pa_cons (pv 2) (pa_cons (pv 1) pa_nil)))))
    (pss_cons (ps_set (i := 5) sc_law.nd rfl (Or.inl rfl) (pe_ix ix_tup (pv 4) pe_int (fun _ _ => rfl)))
    (pss_cons (ps_set (i := 6) sc_law.nd rfl (Or.inl rfl) (pe_lst pa_nil))
    (pss_cons (ps_set (i := 7) sc_law.nd rfl (Or.inl rfl) (pe_lst (pa_cons pe_int (pa_cons (pe_ix ix_tup (pv 4) pe_int (fun _ _ => rfl)) (pa_cons (pe_ix ix_tup (pv 4) pe_int (fun _ _ => rfl)) pa_nil)))))
    (pss_cons (ps_set (i := 8) sc_law.nd rfl (Or.inl rfl) (pe_lst pa_nil))
    (pss_cons (ps_set (i := 9) sc_law.nd rfl (Or.inl rfl) (pe_op op_mod (pe_op op_fdiv (pe_callF F_law_at hr T.g__law_at (fun _ => nopass) (pa_cons (pv 0) (pa_cons pe_int pa_nil))) pe_int) pe_int))
    (pss_cons (ps_if (pt_cmpR op_eq (pe_op op_mod (pe_callF F_law_at hr T.g__law_at (fun _ => nopass) (pa_cons (pv 0) (pa_cons pe_int pa_nil))) pe_int) pe_int (nomark _)) (pss_one (ps_set (i := 9) sc_law.nd rfl (Or.inl rfl) (pe_op op_mod (pe_op op_fdiv (pe_callF F_law_at hr T.g__law_at (fun _ => nopass) (pa_cons (pv 0) (pa_cons pe_int pa_nil))) pe_int) pe_int))) pss_nil)
    htl)))))))))), fun whv w1 w2 => ?_⟩
      walk_at "rd"
      refine atk 1 (by decide) (fun _ _ e => e) ⟨_, rfl, by omega, ?_⟩
      have p1 := Int.emod_nonneg (ns.getD (1 : Int).toNat 0) (b := whv + 1) (by omega)
      have p2 := Int.emod_lt_of_pos (ns.getD (1 : Int).toNat 0) (b := whv + 1) (by omega)
      revert p1 p2
      generalize ns.getD (1 : Int).toNat 0 % (whv + 1) = p'
      intro p1 p2
      intro q1 h1 q2 h2 q3 h3 q4 h4 q5 h5
      have s5 : Same H (upd (upd (upd (upd (upd H q1 (.tup [V.int (-1 - p'), V.int whv])) q2 (.tup [V.int (whv + 1 + p'), V.int whv])) q3 (.tup [V.int p', V.int (-p')])) q4 (.tup [V.int 0, V.int 0])) q5 (.lst [V.ref q1, V.ref q2, V.ref q3, V.ref q4])) := fun b o e =>
        same_new h5 _ _ (same_new h4 _ _ (same_new h3 _ _ (same_new h2 _ _ (same_new h1 _ _ e))))
      have pk : ∀ j, j < 4 → ∃ q b0 b1, ([V.ref q1, V.ref q2, V.ref q3, V.ref q4] : List V)[j]? = some (V.ref q) ∧ (upd (upd (upd (upd (upd H q1 (.tup [V.int (-1 - p'), V.int whv])) q2 (.tup [V.int (whv + 1 + p'), V.int whv])) q3 (.tup [V.int p', V.int (-p')])) q4 (.tup [V.int 0, V.int 0])) q5 (.lst [V.ref q1, V.ref q2, V.ref q3, V.ref q4])) q = some (.tup [V.int b0, V.int b1]) ∧ BadS b0 b1 ∧ b0.natAbs < 2 ^ 250 := fun j hj => by
        obtain rfl | rfl | rfl | rfl : j = 0 ∨ j = 1 ∨ j = 2 ∨ j = 3 := by omega
        · exact ⟨q1, _, _, rfl, same_new h5 _ _ (same_new h4 _ _ (same_new h3 _ _ (same_new h2 _ _ upd_same))), by unfold BadS; omega, by omega⟩
        · exact ⟨q2, _, _, rfl, same_new h5 _ _ (same_new h4 _ _ (same_new h3 _ _ upd_same)), by unfold BadS; omega, by omega⟩
        · exact ⟨q3, _, _, rfl, same_new h5 _ _ (same_new h4 _ _ upd_same), by unfold BadS; omega, by omega⟩
        · exact ⟨q4, _, _, rfl, same_new h5 _ _ upd_same, by unfold BadS; omega, by omega⟩
      have g5 : (upd (upd (upd (upd (upd H q1 (.tup [V.int (-1 - p'), V.int whv])) q2 (.tup [V.int (whv + 1 + p'), V.int whv])) q3 (.tup [V.int p', V.int (-p')])) q4 (.tup [V.int 0, V.int 0])) q5 (.lst [V.ref q1, V.ref q2, V.ref q3, V.ref q4])) q5 = some (.lst [V.ref q1, V.ref q2, V.ref q3, V.ref q4]) := upd_same
      revert s5 pk g5
      generalize upd (upd (upd (upd (upd H q1 (.tup [V.int (-1 - p'), V.int whv])) q2 (.tup [V.int (whv + 1 + p'), V.int whv])) q3 (.tup [V.int p', V.int (-p')])) q4 (.tup [V.int 0, V.int 0])) q5 (.lst [V.ref q1, V.ref q2, V.ref q3, V.ref q4]) = H5
      intro s5 pk g5
      obtain ⟨j, hj, ej⟩ := modlt (ns.getD (3 : Int).toNat 0 / 28) (n := 4) (by decide)
      obtain ⟨q0, b0, b1, gq0, hq, hB, bb⟩ := pk j hj
      refine atk 3 (by decide) s5 ⟨_, rfl, ixL_mk (SqL.of g5) (at_of (j := j) ej gq0) (ixT_mk (SqT.of hq) rfl (ixT_mk (SqT.of hq) rfl ?_))⟩
      refine ⟨b0, b1, rfl, bb, hB, fun H6 s6 => ⟨true, rfl, (if_neg (by decide)).mpr ?_⟩⟩
      have s06 : Same H H6 := fun b o e => s6 _ _ (s5 _ _ e)
      refine atk 3 (by decide) s06 ⟨_, rfl, ?_⟩
      refine ⟨_, p', whv, rfl, p1, by omega, w1, by omega, fun q a pt wh H7 gq R O fr s7 => ixT_mk (SqT.of gq) rfl fun kl hkl => ?_⟩
      have s8 := same_new (o := .lst []) hkl
      refine ixT_mk (SqT.of (s8 _ _ gq)) rfl (ixT_mk (SqT.of (s8 _ _ gq)) rfl fun st hst hd hhd => ?_)
      have s9 := same_new (o := .lst [V.int 0, V.int pt, V.int wh]) hst
      have s10 := same_new (o := .lst []) hhd
      have hk8 : upd H7 kl (.lst []) kl = some (.lst []) := upd_same
      have SR := str_new (R.same s8) O hk8 (R.alive hkl)
      have S9 : St6 K a kl st (upd (upd H7 kl (.lst [])) st (.lst [V.int 0, V.int pt, V.int wh])) pt wh 0 ([], []) ([], []) [] := ⟨SR.same s9, upd_same, SR.alive hst⟩
      have nhd := S9.alive hhd
      have S10 := S9.same s10
      have g10 : upd (upd (upd H7 kl (.lst [])) st (.lst [V.int 0, V.int pt, V.int wh])) hd (.lst []) hd = some (.lst []) := upd_same
      have s07 : Same H H7 := fun b o e => s7 _ _ (s06 _ _ e)
      have fkl := none_back s07 hkl
      have fst_ := none_back s07 (none_back s8 hst)
      have fhd := none_back s07 (none_back s8 (none_back s9 hhd))
      have s010 : Same H (upd (upd (upd H7 kl (.lst [])) st (.lst [V.int 0, V.int pt, V.int wh])) hd (.lst [])) := fun b o e => s10 _ _ (s9 _ _ (s8 _ _ (s07 _ _ e)))
      have fr7 : ∀ b ∈ P7 a kl st hd, H b = none := fun b hb => by
        rcases List.mem_cons.mp hb with z | hb
        · rw [z]; exact fhd
        rcases List.mem_cons.mp hb with z | hb
        · rw [z]; exact fst_
        rcases List.mem_cons.mp hb with z | hb
        · rw [z]; exact fkl
        exact none_back s06 (fr b hb)
      have fin : ∀ z : Int, 0 ≤ z → z ≤ 60 → tl { nx := fun _ H' => Q .non H', rt := Q } [some (V.ref sa), some (V.int whv), some (V.int p'), some (V.ref q0), some (V.ref q), some (V.ref a.r), some (V.ref kl), some (V.ref st), some (V.ref hd), some (V.int z), none, none, none, none] (upd (upd (upd H7 kl (.lst [])) st (.lst [V.int 0, V.int pt, V.int wh])) hd (.lst [])) := fun z z1 z2 => by
        obtain ⟨m, rfl⟩ : ∃ m : Nat, z = (m : Int) := ⟨z.toNat, by omega⟩
        exact key whv p' m q0 q pt wh a kl st hd _ S10 g10 nhd fr7 (by omega) s010
      refine atk 2 (by decide) s010 ⟨_, rfl, atk 2 (by decide) s010 ⟨_, rfl, ?_⟩⟩
      exact ite2 (fun _ => atk 2 (by decide) s010 ⟨_, rfl, fin _ (by omega) (by omega)⟩) (fun _ => fin _ (by omega) (by omega))
    refine ⟨_, (pss_cons (ps_set (i := 1) sc_law.nd rfl (Or.inl rfl) (pe_op op_add pe_int (pe_op op_mod (pe_op op_fdiv (pe_callF F_law_at hr T.g__law_at (fun _ => nopass) (pa_cons (pv 0) (pa_cons pe_int pa_nil))) pe_int) pe_int)))
    (pss_cons (ps_if (pt_cmpR op_eq (pe_op op_mod (pe_callF F_law_at hr T.g__law_at (fun _ => nopass) (pa_cons (pv 0) (pa_cons pe_int pa_nil))) pe_int) pe_int (nomark _)) (pss_one (ps_set (i := 1) sc_law.nd rfl (Or.inl rfl) (pe_op op_add pe_int (pe_op op_mod (pe_op op_fdiv (pe_callF F_law_at hr T.g__law_at (fun _ => nopass) (pa_cons (pv 0) (pa_cons pe_int pa_nil))) pe_int) (pe_op op_pow pe_int pe_int))))) pss_nil)
    htl2)), ?_⟩
    rw [show start N_law [V.ref sa] = [some (V.ref sa), none, none, none, none, none, none, none, none, none, none, none, none, none] from rfl]
    walk_at "rd"
    refine atk 0 (by decide) (fun _ _ e => e) ⟨_, rfl, atk 0 (by decide) (fun _ _ e => e) ⟨_, rfl, ?_⟩⟩
    refine ite2 (fun _ => atk 0 (by decide) (fun _ _ e => e) ⟨_, rfl, key2 _ (by omega) ?_⟩) (fun _ => key2 _ (by omega) (by omega))
    show 1 + ns.getD 0 0 / 2 % 100000000000000000000000000000000000000000000000000000000000 ≤ _
    omega
end
end Mp

namespace Mp
open PySem PySem.Spec PyProof.Rows L2
theorem factsL {P : Program} {w : World} {K : PySem.W.Frag} {h : Heap} {mg : Str → Option Value} {f : Addr} (X : K.In h) (G : h.Ns mainGlobals mg) (hfa : mg ("law" : Str) = some (.ref f)) (c : SaysM fa fn fb K) :
    ∃ fd : FuncData, (∀ (s : Shared) (v : Value), BindsTo s fd ⟨[v], []⟩ [("_law_script", v)]) ∧ ∀ base : Heap, K.In base → base.Ns mainGlobals mg → FnOk P w K mg base CX0 10 f fd ["_law_script"] (spLaw K) := by
  have T := tx_of X G c
  obtain ⟨fd_Pile___init__, D_Pile___init__⟩ := c.d.def_ 0 (d := d_Pile___init__) rfl
  obtain ⟨fd_Pile_ahead, D_Pile_ahead⟩ := c.d.def_ 1 (d := d_Pile_ahead) rfl
  obtain ⟨fd_Pile_many, D_Pile_many⟩ := c.d.def_ 2 (d := d_Pile_many) rfl
  obtain ⟨fd_Pile_told, D_Pile_told⟩ := c.d.def_ 3 (d := d_Pile_told) rfl
  obtain ⟨fd_Pile_top, D_Pile_top⟩ := c.d.def_ 4 (d := d_Pile_top) rfl
  obtain ⟨fd_Pile_lay, D_Pile_lay⟩ := c.d.def_ 5 (d := d_Pile_lay) rfl
  obtain ⟨fd_Pile_rise, D_Pile_rise⟩ := c.d.def_ 6 (d := d_Pile_rise) rfl
  obtain ⟨fd_Pile_sink, D_Pile_sink⟩ := c.d.def_ 7 (d := d_Pile_sink) rfl
  obtain ⟨fd_Pile_put, D_Pile_put⟩ := c.d.def_ 8 (d := d_Pile_put) rfl
  obtain ⟨fd_Pile_take, D_Pile_take⟩ := c.d.def_ 9 (d := d_Pile_take) rfl
  obtain ⟨fd_Turned_ahead, D_Turned_ahead⟩ := c.d.def_ 10 (d := d_Turned_ahead) rfl
  obtain ⟨fd_place, D_place⟩ := c.d.def_ 11 (d := d_place) rfl
  obtain ⟨fd_Midrow___init__, D_Midrow___init__⟩ := c.d.def_ 12 (d := d_Midrow___init__) rfl
  obtain ⟨fd_Midrow_many, D_Midrow_many⟩ := c.d.def_ 13 (d := d_Midrow_many) rfl
  obtain ⟨fd_Midrow_settle, D_Midrow_settle⟩ := c.d.def_ 14 (d := d_Midrow_settle) rfl
  obtain ⟨fd_Midrow_put, D_Midrow_put⟩ := c.d.def_ 15 (d := d_Midrow_put) rfl
  obtain ⟨fd_Midrow_take, D_Midrow_take⟩ := c.d.def_ 16 (d := d_Midrow_take) rfl
  obtain ⟨fd_Midrow_number_of, D_Midrow_number_of⟩ := c.d.def_ 17 (d := d_Midrow_number_of) rfl
  obtain ⟨fd_Midrow_oldest, D_Midrow_oldest⟩ := c.d.def_ 18 (d := d_Midrow_oldest) rfl
  obtain ⟨fd_Midrow_share, D_Midrow_share⟩ := c.d.def_ 19 (d := d_Midrow_share) rfl
  obtain ⟨fd_Midrow_piles, D_Midrow_piles⟩ := c.d.def_ 20 (d := d_Midrow_piles) rfl
  obtain ⟨fd_Midrow_turn, D_Midrow_turn⟩ := c.d.def_ 21 (d := d_Midrow_turn) rfl
  obtain ⟨fd_law_at, D_law_at⟩ := c.d.def_ 22 (d := d_law_at) rfl
  obtain ⟨fd_law_is, D_law_is⟩ := c.d.def_ 23 (d := d_law_is) rfl
  obtain ⟨fd_law_number, D_law_number⟩ := c.d.def_ 24 (d := d_law_number) rfl
  obtain ⟨fd_law_numbers, D_law_numbers⟩ := c.d.def_ 25 (d := d_law_numbers) rfl
  obtain ⟨fd_law_thing, D_law_thing⟩ := c.d.def_ 26 (d := d_law_thing) rfl
  obtain ⟨fd_law_form, D_law_form⟩ := c.d.def_ 27 (d := d_law_form) rfl
  obtain ⟨fd_law_empty, D_law_empty⟩ := c.d.def_ 28 (d := d_law_empty) rfl
  obtain ⟨fd_law_no_share, D_law_no_share⟩ := c.d.def_ 29 (d := d_law_no_share) rfl
  obtain ⟨fd_law_no_row, D_law_no_row⟩ := c.d.def_ 30 (d := d_law_no_row) rfl
  obtain ⟨fd_law_made, D_law_made⟩ := c.d.def_ 31 (d := d_law_made) rfl
  obtain ⟨fd_law_no_thing, D_law_no_thing⟩ := c.d.def_ 32 (d := d_law_no_thing) rfl
  obtain ⟨fd_law_put, D_law_put⟩ := c.d.def_ 33 (d := d_law_put) rfl
  obtain ⟨fd_law_taken, D_law_taken⟩ := c.d.def_ 34 (d := d_law_taken) rfl
  obtain ⟨fd_law_taken_here, D_law_taken_here⟩ := c.d.def_ 35 (d := d_law_taken_here) rfl
  obtain ⟨fd_law_asked, D_law_asked⟩ := c.d.def_ 36 (d := d_law_asked) rfl
  obtain ⟨fd_law_turned, D_law_turned⟩ := c.d.def_ 37 (d := d_law_turned) rfl
  obtain ⟨fd_law_deed, D_law_deed⟩ := c.d.def_ 38 (d := d_law_deed) rfl
  obtain ⟨fd_law_at_place, D_law_at_place⟩ := c.d.def_ 39 (d := d_law_at_place) rfl
  obtain ⟨fd_law_look, D_law_look⟩ := c.d.def_ 40 (d := d_law_look) rfl
  obtain ⟨fd_law, D_law⟩ := c.d.def_ 41 (d := d_law) rfl
  have e := hfa.symm.trans T.g_law
  cases e
  have b := FunD.bindsA (ps := ["_law_script"]) D_law fun _ _ _ _ _ _ us hl => match us, hl with | [_], _ => rfl
  refine ⟨fd_law, fun s v => b s [v] rfl, fun base _ _ => ?_⟩
  have F_law_at : ∀ a ns, Fn P w K mg base 1 _ P_law_at (spAt K a ns) := fun a ns => ok_law_at T a ns D_law_at
  have F_init : ∀ t, Fn P w K mg base 1 _ P_Pile___init__ (spPInit K t) := fun t => ok_Pile___init__ T t D_Pile___init__
  have F_ahead : ∀ t, Fn P w K mg base 1 (pAh K t) P_Pile_ahead (spAhead t) := fun t => match t with | false => ok_Pile_ahead T D_Pile_ahead | true => ok_Turned_ahead T D_Turned_ahead
  have F_many : ∀ t, Fn P w K mg base 1 _ P_Pile_many (spMany K t) := fun t => ok_Pile_many T t D_Pile_many
  have F_top : ∀ t, Fn P w K mg base 1 _ P_Pile_top (spTop K t) := fun t => ok_Pile_top T t D_Pile_top
  have F_told : ∀ t, Fn P w K mg base 1 _ P_Pile_told (spTold K t) := fun t => ok_Pile_told T t D_Pile_told
  have F_lay : ∀ t, Fn P w K mg base 1 _ P_Pile_lay (spLay K t) := fun t => ok_Pile_lay T t D_Pile_lay
  have F_rise : ∀ t, Fn P w K mg base 2 _ P_Pile_rise (spRise K t) := fun t => ok_Pile_rise T t (F_ahead t) (F_lay t) D_Pile_rise
  have F_put : ∀ t, Fn P w K mg base 3 _ P_Pile_put (spPut K t) := fun t => ok_Pile_put T t (F_rise t) D_Pile_put
  have F_sink : ∀ t, Fn P w K mg base 2 _ P_Pile_sink (spSink K t) := fun t => ok_Pile_sink T t (F_ahead t) (F_lay t) D_Pile_sink
  have F_take : ∀ t, Fn P w K mg base 3 _ P_Pile_take (spTake K t) := fun t => ok_Pile_take T t (F_lay t) (F_rise t) (F_sink t) D_Pile_take
  have F_takeN : FnN P w K mg base 3 _ P_Pile_take (spTake K true) := okN_Pile_take T true (F_lay true) (F_rise true) (F_sink true) D_Pile_take
  have H_ahead : FnHs P w K mg base 1 (pAh K false) P_Pile_ahead (spAhead false) := okH_Pile_ahead T D_Pile_ahead
  have H_lay : FnHs P w K mg base 1 _ P_Pile_lay (spLay K false) := okH_Pile_lay T false D_Pile_lay
  have H_rise : FnHs P w K mg base 2 _ P_Pile_rise (spRise K false) := okH_Pile_rise T false H_ahead H_lay D_Pile_rise
  have H_sink : FnHs P w K mg base 2 _ P_Pile_sink (spSink K false) := okH_Pile_sink T false H_ahead H_lay D_Pile_sink
  have H_take : FnHs P w K mg base 3 _ P_Pile_take (spTake K false) := okH_Pile_take T false H_lay H_rise H_sink D_Pile_take
  have F_place := ok_place (P := P) (w := w) (base := base) T D_place
  have F_rmany := ok_Midrow_many (P := P) (w := w) (base := base) T D_Midrow_many
  have F_settle := ok_Midrow_settle T F_place F_rmany (F_many true) (F_many false) (F_top true) (F_top false) (F_put true) (F_put false) (F_take true) (F_take false) D_Midrow_settle
  have F_rput := ok_Midrow_put T (F_many true) (F_top true) (F_put true) (F_put false) F_settle D_Midrow_put
  have F_rtake := ok_Midrow_take T F_takeN H_take F_settle D_Midrow_take
  have F_minit := ok_Midrow___init__ T F_place F_init D_Midrow___init__
  have F_rnum := ok_Midrow_number_of (P := P) (w := w) (base := base) T D_Midrow_number_of
  have F_rold := ok_Midrow_oldest (P := P) (w := w) (base := base) T D_Midrow_oldest
  have F_rshare := ok_Midrow_share T (F_top true) D_Midrow_share
  have F_rpiles := ok_Midrow_piles T (F_told true) (F_told false) D_Midrow_piles
  have F_rturn := ok_Midrow_turn T F_place F_settle D_Midrow_turn
  have F_minit0 : FnI P w K mg base 3 (He.ma K (He.ga K "Midrow") "__init__") P_Midrow___init__ (spMInit K) [.int 1, .int 2] := by
    obtain ⟨ds, hd, hb⟩ := FunD.binds1 (ps := P_Midrow___init__) D_Midrow___init__ 1 0 (List.cons_ne_nil (V.int 1) [V.int 2]) rfl (fun T kV doc pm an cdv ct us its hl hi => match us, hl, its, hi with | [_], _, [_, _], _ => ⟨_, rfl, rfl⟩)
    exact ⟨⟨_, ds, F_minit, hd, hb⟩, D_Midrow___init__.kp⟩
  have F_minit1 : FnI P w K mg base 3 (He.ma K (He.ga K "Midrow") "__init__") P_Midrow___init__ (spMInit K) [.int 2] := by
    obtain ⟨ds, hd, hb⟩ := FunD.binds1 (ps := P_Midrow___init__) D_Midrow___init__ 2 1 (List.cons_ne_nil (V.int 1) [V.int 2]) rfl (fun T kV doc pm an cdv ct us its hl hi => match us, hl, its, hi with | [_, _], _, [_, _], _ => ⟨_, rfl, rfl⟩)
    exact ⟨⟨_, ds, F_minit, hd, hb⟩, D_Midrow___init__.kp⟩
  have F_minit2 : FnI P w K mg base 3 (He.ma K (He.ga K "Midrow") "__init__") P_Midrow___init__ (spMInit K) [] := by
    obtain ⟨ds, hd, hb⟩ := FunD.binds1 (ps := P_Midrow___init__) D_Midrow___init__ 3 2 (List.cons_ne_nil (V.int 1) [V.int 2]) rfl (fun T kV doc pm an cdv ct us its hl hi => match us, hl, its, hi with | [_, _, _], _, [_, _], _ => ⟨_, rfl, rfl⟩)
    exact ⟨⟨_, ds, F_minit, hd, hb⟩, D_Midrow___init__.kp⟩
  have F_law_is := ok_law_is (P := P) (w := w) (base := base) T D_law_is
  have F_law_number := ok_law_number (P := P) (w := w) (base := base) T D_law_number
  have F_law_thing := ok_law_thing (P := P) (w := w) (base := base) T F_law_is D_law_thing
  have F_numbers := ok_law_numbers (P := P) (w := w) (base := base) T D_law_numbers
  have F_form := ok_law_form T F_law_thing D_law_form
  have F_empty := ok_law_empty T F_rshare D_law_empty
  have F_nosh := ok_law_no_share T F_rturn D_law_no_share
  have F_norow := ok_law_no_row T F_minit2 D_law_no_row
  have F_made := ok_law_made T F_minit0 F_minit1 F_minit2 D_law_made
  have F_noth := ok_law_no_thing T F_rtake D_law_no_thing
  have F_lput := ok_law_put T F_rput F_law_is D_law_put
  have F_ltaken := ok_law_taken T F_rtake F_law_is D_law_taken
  have F_here := ok_law_taken_here T F_ltaken D_law_taken_here
  have F_asked := ok_law_asked T F_noth F_here D_law_asked
  have F_turned := ok_law_turned T F_nosh F_rturn D_law_turned
  have F_place6 := ok_law_at_place (P := P) (w := w) (base := base) T D_law_at_place
  have F_deed := ok_law_deed T F_rshare F_rpiles F_law_number F_lput F_ltaken F_here F_asked F_turned D_law_deed
  have F_look := ok_law_look T F_rshare F_rpiles F_rmany F_rold F_rnum F_law_is F_law_thing F_form F_empty F_place6 D_law_look
  exact ok_law T F_law_at F_norow F_made F_numbers F_lput F_look F_deed D_law
end Mp
open PySem PySem.W PySem.Calls PyProof.Rows
set_option maxRecDepth 100000 in
set_option maxHeartbeats 0 in
theorem PySem.Challenge.cw_midpile_k06_whole_share_told_holds : PySem.Challenge.rw_midpile_k06_whole_share_told.Holds := by
  w_on; o_law
  refine HandSHeadRun.head_any (r := OpenLaw.row PySem.Challenge.rw_midpile_k06_whole_share_told) (q := view (OpenLaw.row PySem.Challenge.rw_midpile_k06_whole_share_told).prog [35]) (H := Mp.hk) (ob := Mp.obH) (M := 4000) (loose := Mp.looseN) (d := HandSHeadRun.topDef (OpenLaw.row PySem.Challenge.rw_midpile_k06_whole_share_told).prog 35) (kwd := []) Mp.obH_eq
    (by kernel_rfl) (fun s => by kernel_rfl) Mp.runH (by kernel_rfl) (by kernel_rfl) (by kernel_rfl) (by rfl) (by first | assumption | decide +kernel) (by decide +kernel) ⟨rfl, rfl, rfl, rfl, rfl, by decide +kernel⟩ ?hw ?hc
  case hw => w_witness2
  case hc =>
    refine L2.walk_ofE (l := PySem.Challenge.rw_midpile_k06_whole_share_told) (n := 63) (k := 10) (x := "_law_script") (CX := L2.CX0) rfl (by decide) (by kernel_rfl) ⟨rfl, by decide, by decide⟩ ?F (fun _ _ _ _ z => z)
    intro w mg fa h Y G hmg0
    obtain ⟨K, KX, c⟩ := Y
    have hmg : mg ("law" : PySem.Str) = some (.ref fa) := by
      have e : (HandSHeadRun.topDef (OpenLaw.row PySem.Challenge.rw_midpile_k06_whole_share_told).prog 35).name = ("law" : PySem.Str) := by kernel_rfl
      rw [← e]
      exact hmg0
    obtain ⟨fd, hb, hF⟩ := Mp.factsL (P := (PySem.Challenge.rw_midpile_k06_whole_share_told).prog) (w := w) KX G hmg c
    exact ⟨K, fd, Mp.spLaw K, KX, hb, fun H a ns hl _ hS => ⟨a, ns, rfl, hS, hl, fun _ => rfl⟩, hF⟩

#print axioms PySem.Challenge.cw_midpile_k06_whole_share_told_holds

#print axioms PySem.Challenge.cw_midpile_k06_whole_share_told_holds
